import PyProof.Rows.All
import Wide.All
import OpenK.AllK
import Wide.FinOn
import KE.KStateDown
import Lean
import HandS.ForMost
import HandS.Exc
import HandS.ExcOwn
import HandS.TryOnly
import HandS.WordsExc
import HandS.Defaults
import HandS.Zip
import HandS.Nested
import HandS.Lambda
import HandS.HeadHook1
import HandS.HeadHook2
import HandS.HeadHook3
import HandS.HeadHook4
import HandS.Iter
import KE.GoesMore
import KE.GoesEnum
import HandS.CallSlots
import HandS.ExcCtx
import HandS.TupAny
import HandS.TupMul
import HandS.Style
import HandS.IsInst
import HandS.Deep
import HandS.SetKeys
import HandS.Dict
import HandS.DictComp
import PyProof.DictTruth
import PyProof.SeqIndex
import HandS.Conv
import KE.DataMinMax
import HandS.Star
import HandS.Property
import HandS.ExcIs
import HandS.ExcInit
import KE.KExcSuper
import HandS.ExcField
import PyProof.InstNe
import HandS.EndTab
import KE.DatumOrd
import HandS.Head0
import HandS.Head1
import HandS.Head2
import HandS.HeadEnd
import HandS.HeadWalk
import PySem.Challenge.RW_watchcode_k92_whole_first_rows_and_place
section
set_option Elab.async false
set_option linter.all false
set_option maxRecDepth 100000
set_option maxHeartbeats 4000000
/-! PyA: values as trees, mutable objects by number in a list heap; readings over that (AE, AT, AA, AS ..), and what they say of HandS's heap. -/
namespace PyA
open PySem L2

/-! ### values -/
/-- a lambda's own words -/
structure LamD where
  qual : Str
  params : Arguments
  body : Expr
  scope : Scope
inductive PV where
  | non | bl (b : Bool) | int (i : Int) | str (s : Str) | tup (xs : List PV) | fls (xs : List PV) | ftp (xs : List PV)
  | loc (n : Nat) | adr (a : Addr) | gf (x : Str) | clo (d : LamD) (f c : Addr) (cl : List (Str × Addr)) (xs : List PV) (vs : List V) | ty (n : String) | exn (c : Str) (fs : List Str) (vs : List PV)

/-- a dict's key: an int or a text, or a tuple of these -/
abbrev DK := Sum Key (List Key)
inductive Cell where
  | lst (xs : List PV)
  | dic (lk : Bool) (kvs : List (DK × PV))
  | dik (kvs : List (DK × PV))
  | set (ks : List DK)
  | ins (c : Str) (fs : List Str) (vs : List PV)

abbrev Hh := List Cell
abbrev Ev := List (Option PV)
structure Exn where
  c : Str
  fs : List Str
  vs : List PV

abbrev QV := PV → Hh → Prop
abbrev QX := Exn → Hh → Prop

/-! ### readings -/
structure AE where
  run : Ev → Hh → QV → QX → Prop
  mono : ∀ {e h Q Q' R R'}, run e h Q R → (∀ v g, Q v g → Q' v g) → (∀ x g, R x g → R' x g) → run e h Q' R'
structure AT where
  run : Ev → Hh → (Bool → Hh → Prop) → QX → Prop
  mono : ∀ {e h Q Q' R R'}, run e h Q R → (∀ v g, Q v g → Q' v g) → (∀ x g, R x g → R' x g) → run e h Q' R'
structure AA where
  run : Ev → Hh → (List PV → Hh → Prop) → QX → Prop
  mono : ∀ {e h Q Q' R R'}, run e h Q R → (∀ v g, Q v g → Q' v g) → (∀ x g, R x g → R' x g) → run e h Q' R'
/-- on values, nothing raised -/
structure AO2 where
  run : PV → PV → Hh → QV → Prop
  mono : ∀ {x y h Q Q'}, run x y h Q → (∀ v g, Q v g → Q' v g) → run x y h Q'
structure AON where
  run : List PV → Hh → QV → Prop
  mono : ∀ {xs h Q Q'}, run xs h Q → (∀ v g, Q v g → Q' v g) → run xs h Q'
/-- a def -/
structure AF where
  n : Nat
  run : List PV → Hh → QV → QX → Prop
  mono : ∀ {xs h Q Q' R R'}, run xs h Q R → (∀ v g, Q v g → Q' v g) → (∀ x g, R x g → R' x g) → run xs h Q' R'
  len : ∀ {xs h Q R}, run xs h Q R → xs.length = n
structure AD where
  nx : Ev → Hh → Prop
  rt : QV
  bk : Ev → Hh → Prop
  ct : Ev → Hh → Prop
  ex : Exn → Ev → Hh → Prop
structure AD.Le (D D' : AD) : Prop where
  nx : ∀ e h, D.nx e h → D'.nx e h
  rt : ∀ e h, D.rt e h → D'.rt e h
  bk : ∀ e h, D.bk e h → D'.bk e h
  ct : ∀ e h, D.ct e h → D'.ct e h
  ex : ∀ x e h, D.ex x e h → D'.ex x e h
structure AS where
  run : AD → Ev → Hh → Prop
  mono : ∀ {D D' e h}, run D e h → D.Le D' → run D' e h
/-- a target -/
structure AG where
  run : PV → Ev → Hh → (Ev → Hh → Prop) → Prop
  mono : ∀ {v e h Q Q'}, run v e h Q → (∀ e' g, Q e' g → Q' e' g) → run v e h Q'
/-- a walk: its items, and what must hold of the heap at each turn -/
structure Itr where
  items : List PV
  ok : Hh → Prop
structure AI where
  run : Ev → Hh → (Itr → Hh → Prop) → QX → Prop
  mono : ∀ {e h Q Q' R R'}, run e h Q R → (∀ v g, Q v g → Q' v g) → (∀ x g, R x g → R' x g) → run e h Q' R'

/-! ### the abstract values over HandS's heap -/
structure Wd where
  m : Nat → Addr
  n : Nat
  H : Hp

/-- nobody of ours changes what stands there -/
def Wd.Off (w : Wd) (a : Addr) : Prop := ∀ i, i < w.n → w.m i ≠ a

abbrev H0 : Hp := fun _ => none
/-- a tuple that stays; a list that nobody changes -/
def TupAt (K : PySem.W.Frag) (w : Wd) (a : Addr) (vs : List V) : Prop := w.Off a ∧ w.H a = some (.tup vs)
def LstAt (K : PySem.W.Frag) (w : Wd) (a : Addr) (vs : List V) : Prop := (w.Off a ∧ Rd w.H a (.lst vs)) ∨ SqL K H0 a vs
/-- an exception object: its class, its own dict -/
def ExO (a : Addr) (cls : Value) (d : Option Addr) : HO := .ext fun h => ∃ (oe : Obj) (vs : Array Value), h.get? a = some oe ∧ Zc cls d oe ∧ oe.data = .fields vs

/-- at f: the function that a lambda made -/
def LamO (f : Addr) (d : LamD) (cl : List (Str × Addr)) (c : Addr) : HO := .ext fun h => ∃ pm ctv, h.get? f = some (PySem.W.kla_obj "<lambda>" d.qual d.params d.body d.scope cl pm c ctv)
mutual
def RV (K : PySem.W.Frag) (w : Wd) : PV → V → Prop
  | .non, v => v = .non
  | .bl b, v => v = .bl b
  | .int i, v => v = .int i
  | .str s, v => v = .str s
  | .tup xs, v => ∃ a vs, v = .ref a ∧ TupAt K w a vs ∧ RVs K w xs vs
  | .fls xs, v => ∃ a vs, v = .ref a ∧ LstAt K w a vs ∧ RVs K w xs vs
  | .ftp xs, v => ∃ a vs od, v = .ref a ∧ w.Off a ∧ w.H a = some (.frz od (.tup vs)) ∧ od.dict = none ∧ RVs K w xs vs
  | .loc l, v => l < w.n ∧ v = .ref (w.m l)
  | .adr a, v => v = .ref a
  | .gf x, v => v = .ref (He.ga K x)
  | .clo d f c cl xs vs, v => v = .ref f ∧ w.Off f ∧ w.H f = some (LamO f d cl c) ∧ w.Off c ∧ w.H c = some (LamX.CodeO c d.qual) ∧ RVs K w xs vs
  | .ty s, v => v = .ty s
  | .exn c fs xs, v => ∃ a vs, v = .ref a ∧ w.Off a ∧ RVs K w xs vs ∧
      ((fs = [] ∧ vs = [] ∧ w.H a = some (ExO a (.ref (He.ga K c)) none)) ∨ ∃ d, w.Off d ∧ w.H a = some (ExO a (.ref (He.ga K c)) (some d)) ∧ w.H d = some (.xd (fs.zip vs)) ∧ fs.length = vs.length)
def RVs (K : PySem.W.Frag) (w : Wd) : List PV → List V → Prop
  | [], vs => vs = []
  | x :: xs, vs => ∃ v r, vs = v :: r ∧ RV K w x v ∧ RVs K w xs r
end

structure Wd.Le (w w' : Wd) : Prop where
  n : w.n ≤ w'.n
  m : ∀ i, i < w.n → w'.m i = w.m i
  keep : ∀ a o, w.H a = some o → w.Off a → (∀ ps, o ≠ .tbl ps) → w'.H a = some o
  fresh : ∀ i, w.n ≤ i → i < w'.n → w.H (w'.m i) = none
  dom : ∀ a, w.H a ≠ none → w'.H a ≠ none
  frz : ∀ a od o, w.H a = some (.frz od o) → w'.H a = some (.frz od o)
theorem Wd.Le.refl (w : Wd) : w.Le w := ⟨Nat.le_refl _, fun _ _ => rfl, fun _ _ h _ _ => h, fun i h1 h2 => absurd h1 (by omega), fun _ h => h, fun _ _ _ h => h⟩
theorem Wd.Le.off {w w' : Wd} (l : w.Le w') {a : Addr} (h : w.Off a) (hs : w.H a ≠ none) : w'.Off a := fun i hi e => by
  by_cases h2 : i < w.n
  · exact h i h2 ((l.m i h2).symm.trans e)
  · exact hs (e ▸ l.fresh i (by omega) hi)
theorem Wd.Le.trans {w w1 w2 : Wd} (a : w.Le w1) (b : w1.Le w2) : w.Le w2 where
  n := Nat.le_trans a.n b.n
  m := fun i h => (b.m i (Nat.lt_of_lt_of_le h a.n)).trans (a.m i h)
  keep := fun c o h off nt => b.keep c o (a.keep c o h off nt) (a.off off (by rw [h]; simp)) nt
  fresh := fun i h1 h2 => by
    by_cases h : i < w1.n
    · rw [b.m i h]
      exact a.fresh i h1 h
    · have q := b.fresh i (by omega) h2
      exact Classical.byContradiction fun z => a.dom _ z q
  dom := fun c h => b.dom c (a.dom c h)
  frz := fun c od o h => b.frz c od o (a.frz c od o h)

theorem Rd.to {w w' : Wd} {a : Addr} {o : HO} (l : w.Le w') (off : w.Off a) (nt : ∀ ps, o ≠ .tbl ps) (h : Rd w.H a o) : w'.Off a ∧ Rd w'.H a o := by
  rcases h with h | ⟨ob, h⟩
  · exact ⟨l.off off (by rw [h]; simp), .inl (l.keep _ _ h off nt)⟩
  · exact ⟨l.off off (by rw [h]; simp), .inr ⟨ob, l.keep _ _ h off (fun ps z => by cases z)⟩⟩
theorem TupAt.to {K : PySem.W.Frag} {w w' : Wd} {a : Addr} {vs : List V} (l : w.Le w') (h : TupAt K w a vs) : TupAt K w' a vs :=
  ⟨l.off h.1 (by rw [h.2]; simp), l.keep _ _ h.2 h.1 (fun ps z => by cases z)⟩
theorem LstAt.to {K : PySem.W.Frag} {w w' : Wd} {a : Addr} {vs : List V} (l : w.Le w') (h : LstAt K w a vs) : LstAt K w' a vs := by
  rcases h with ⟨off, h⟩ | h
  · exact .inl (Rd.to l off (fun ps z => by cases z) h)
  · exact .inr h
theorem TupAt.sq {K : PySem.W.Frag} {w : Wd} {a : Addr} {vs : List V} (h : TupAt K w a vs) : SqT K w.H a vs := .inl (.inl h.2)
theorem LstAt.sq {K : PySem.W.Frag} {w : Wd} {a : Addr} {vs : List V} (h : LstAt K w a vs) : SqL K w.H a vs := by
  rcases h with ⟨_, h⟩ | (h | ⟨_, h⟩) | h
  · exact .inl h
  · cases h
  · cases h
  · exact .inr h
mutual
theorem RV.to {K : PySem.W.Frag} {w w' : Wd} (l : w.Le w') : ∀ {x : PV} {v : V}, RV K w x v → RV K w' x v
  | .non, _, h => by simpa [RV] using h
  | .bl _, _, h => by simpa [RV] using h
  | .int _, _, h => by simpa [RV] using h
  | .str _, _, h => by simpa [RV] using h
  | .tup xs, _, h => by
    rw [RV] at h ⊢
    obtain ⟨a, vs, e, t, r⟩ := h
    exact ⟨a, vs, e, t.to l, RVs.to l r⟩
  | .fls xs, _, h => by
    rw [RV] at h ⊢
    obtain ⟨a, vs, e, t, r⟩ := h
    exact ⟨a, vs, e, t.to l, RVs.to l r⟩
  | .ftp xs, _, h => by
    rw [RV] at h ⊢
    obtain ⟨a, vs, od, e, off, t, hd, r⟩ := h
    exact ⟨a, vs, od, e, l.off off (by rw [t]; simp), l.frz _ _ _ t, hd, RVs.to l r⟩
  | .loc i, _, h => by
    rw [RV] at h ⊢
    exact ⟨Nat.lt_of_lt_of_le h.1 l.n, by rw [l.m i h.1]; exact h.2⟩
  | .adr _, _, h => by simpa [RV] using h
  | .gf _, _, h => by simpa [RV] using h
  | .clo d f c cl xs vs, _, h => by
    rw [RV] at h ⊢
    obtain ⟨e, o1, h1, o2, h2, r⟩ := h
    exact ⟨e, l.off o1 (by rw [h1]; simp), l.keep _ _ h1 o1 (fun ps z => by cases z), l.off o2 (by rw [h2]; simp), l.keep _ _ h2 o2 (fun ps z => by cases z), RVs.to l r⟩
  | .ty _, _, h => by simpa [RV] using h
  | .exn c fs xs, _, h => by
    rw [RV] at h ⊢
    obtain ⟨a, vs, e, off, r, h⟩ := h
    rcases h with ⟨e1, e2, h⟩ | ⟨d, od, h1, h2, h3⟩
    · exact ⟨a, vs, e, l.off off (by rw [h]; simp), RVs.to l r, .inl ⟨e1, e2, l.keep _ _ h off (fun ps z => by cases z)⟩⟩
    · exact ⟨a, vs, e, l.off off (by rw [h1]; simp), RVs.to l r, .inr ⟨d, l.off od (by rw [h2]; simp), l.keep _ _ h1 off (fun ps z => by cases z), l.keep _ _ h2 od (fun ps z => by cases z), h3⟩⟩
theorem RVs.to {K : PySem.W.Frag} {w w' : Wd} (l : w.Le w') : ∀ {xs : List PV} {vs : List V}, RVs K w xs vs → RVs K w' xs vs
  | [], _, h => by simpa [RVs] using h
  | x :: xs, _, h => by
    rw [RVs] at h ⊢
    obtain ⟨v, r, e, h1, h2⟩ := h
    exact ⟨v, r, e, RV.to l h1, RVs.to l h2⟩
end
theorem RVs.length {K : PySem.W.Frag} {w : Wd} : ∀ {xs : List PV} {vs : List V}, RVs K w xs vs → xs.length = vs.length
  | [], _, h => by rw [RVs] at h; subst h; rfl
  | x :: xs, _, h => by
    rw [RVs] at h
    obtain ⟨v, r, e, _, h2⟩ := h
    subst e
    simp [RVs.length h2]
theorem RVs.get {K : PySem.W.Frag} {w : Wd} : ∀ {xs : List PV} {vs : List V} {i : Nat} {x : PV}, RVs K w xs vs → xs[i]? = some x → ∃ v, vs[i]? = some v ∧ RV K w x v
  | [], _, _, _, _, e => by simp at e
  | y :: xs, _, 0, x, h, e => by
    rw [RVs] at h
    obtain ⟨v, r, e1, h1, _⟩ := h
    subst e1
    simp at e
    subst e
    exact ⟨v, rfl, h1⟩
  | y :: xs, _, i + 1, x, h, e => by
    rw [RVs] at h
    obtain ⟨v, r, e1, _, h2⟩ := h
    subst e1
    obtain ⟨u, a, b⟩ := RVs.get (i := i) (x := x) h2 (by simpa using e)
    exact ⟨u, by simpa using a, b⟩
theorem RVs.cons {K : PySem.W.Frag} {w : Wd} {x : PV} {xs : List PV} {v : V} {vs : List V} (h : RV K w x v) (t : RVs K w xs vs) : RVs K w (x :: xs) (v :: vs) := by
  rw [RVs]
  exact ⟨v, vs, rfl, h, t⟩
theorem RVs.nil {K : PySem.W.Frag} {w : Wd} : RVs K w [] [] := by rw [RVs]
theorem RVs.append {K : PySem.W.Frag} {w : Wd} : ∀ {xs ys : List PV} {vs us : List V}, RVs K w xs vs → RVs K w ys us → RVs K w (xs ++ ys) (vs ++ us)
  | [], _, _, _, h, t => by rw [RVs] at h; subst h; exact t
  | x :: xs, _, _, _, h, t => by
    rw [RVs] at h
    obtain ⟨v, r, e, h1, h2⟩ := h
    subst e
    exact RVs.cons h1 (RVs.append h2 t)
theorem RVs.set {K : PySem.W.Frag} {w : Wd} {x : PV} {v : V} (hx : RV K w x v) : ∀ {xs : List PV} {vs : List V} (i : Nat), RVs K w xs vs → RVs K w (xs.set i x) (vs.set i v)
  | [], _, _, h => by rw [RVs] at h; subst h; exact RVs.nil
  | y :: xs, _, 0, h => by
    rw [RVs] at h
    obtain ⟨u, r, e, h1, h2⟩ := h
    subst e
    exact RVs.cons hx h2
  | y :: xs, _, i + 1, h => by
    rw [RVs] at h
    obtain ⟨u, r, e, h1, h2⟩ := h
    subst e
    exact RVs.cons h1 (RVs.set hx i h2)
theorem RVs.take {K : PySem.W.Frag} {w : Wd} : ∀ {xs : List PV} {vs : List V} (n : Nat), RVs K w xs vs → RVs K w (xs.take n) (vs.take n)
  | [], _, _, h => by rw [RVs] at h; subst h; simp [RVs.nil]
  | y :: xs, _, 0, h => by simp [RVs.nil]
  | y :: xs, _, n + 1, h => by
    rw [RVs] at h
    obtain ⟨u, r, e, h1, h2⟩ := h
    subst e
    exact RVs.cons h1 (RVs.take n h2)
theorem RVs.drop {K : PySem.W.Frag} {w : Wd} : ∀ {xs : List PV} {vs : List V} (n : Nat), RVs K w xs vs → RVs K w (xs.drop n) (vs.drop n)
  | [], _, _, h => by rw [RVs] at h; subst h; simp [RVs.nil]
  | y :: xs, _, 0, h => h
  | y :: xs, _, n + 1, h => by
    rw [RVs] at h
    obtain ⟨u, r, e, h1, h2⟩ := h
    subst e
    exact RVs.drop n h2
theorem RVs.reverse {K : PySem.W.Frag} {w : Wd} : ∀ {xs : List PV} {vs : List V}, RVs K w xs vs → RVs K w xs.reverse vs.reverse
  | [], _, h => by rw [RVs] at h; subst h; exact RVs.nil
  | y :: xs, _, h => by
    rw [RVs] at h
    obtain ⟨u, r, e, h1, h2⟩ := h
    subst e
    rw [List.reverse_cons, List.reverse_cons]
    exact RVs.append (RVs.reverse h2) (RVs.cons h1 RVs.nil)

/-! ### the heap -/
abbrev NTabs := List NdefX.NTab
/-- the pairs of a dict, its values by what they are -/
def KVs (K : PySem.W.Frag) (w : Wd) {κ : Type} (f : κ → DK) : List (DK × PV) → List (κ × V) → Prop
  | [], ys => ys = []
  | p :: r, ys => ∃ (k : κ) (v : V) (t : List (κ × V)), ys = (k, v) :: t ∧ p.1 = f k ∧ RV K w p.2 v ∧ KVs K w f r t
def DicR (K : PySem.W.Frag) (w : Wd) (kvs : List (DK × PV)) (o : HO) : Prop :=
  (∃ ys, o = .dK ys ∧ KVs K w Sum.inl kvs ys) ∨ ∃ ys, o = .dT ys ∧ KVs K w Sum.inr kvs ys
def CellR (K : PySem.W.Frag) (w : Wd) : Cell → Addr → Prop
  | .lst xs, a => ∃ vs, w.H a = some (.lst vs) ∧ RVs K w xs vs
  | .dic false kvs, a => ∃ o, w.H a = some o ∧ DicR K w kvs o
  | .dic true kvs, a => ∃ od o, w.H a = some (.frz od o) ∧ DicR K w kvs o
  | .dik kvs, a => ∃ ys, w.H a = some (.dK ys) ∧ KVs K w Sum.inl kvs ys
  | .set ks, a => False
  | .ins c fs xs, a => ∃ dx vs, w.H a = some (.ins (He.ga K c) dx (fs.zip vs)) ∧ fs.length = vs.length ∧ fs.Nodup ∧ RVs K w xs vs
structure Rel (K : PySem.W.Frag) (T : NTabs) (w : Wd) (h : Hh) : Prop where
  len : w.n = h.length
  inj : ∀ i j, i < w.n → j < w.n → w.m i = w.m j → i = j
  cell : ∀ i c, h[i]? = some c → CellR K w c (w.m i)
  tabs : NdefX.TabsN T w.H

theorem KVs.to {K : PySem.W.Frag} {w w' : Wd} (l : w.Le w') {κ : Type} {f : κ → DK} : ∀ {kvs : List (DK × PV)} {ys : List (κ × V)}, KVs K w f kvs ys → KVs K w' f kvs ys
  | [], _, h => h
  | p :: r, _, h => by
    obtain ⟨k, v, t, e, e1, h1, h2⟩ := h
    exact ⟨k, v, t, e, e1, h1.to l, KVs.to l h2⟩
theorem DicR.to {K : PySem.W.Frag} {w w' : Wd} (l : w.Le w') {kvs : List (DK × PV)} {o : HO} (h : DicR K w kvs o) : DicR K w' kvs o := by
  rcases h with ⟨ys, e, h⟩ | ⟨ys, e, h⟩
  · exact .inl ⟨ys, e, h.to l⟩
  · exact .inr ⟨ys, e, h.to l⟩
/-- a cell whose own object stays -/
theorem CellR.to {K : PySem.W.Frag} {w w' : Wd} (l : w.Le w') {c : Cell} {a : Addr} (h : CellR K w c a) (e : w'.H a = w.H a) : CellR K w' c a := by
  cases c with
  | lst xs =>
    obtain ⟨vs, h1, h2⟩ := h
    exact ⟨vs, e.trans h1, RVs.to l h2⟩
  | dic lk kvs =>
    cases lk with
    | false =>
      obtain ⟨o, h1, h2⟩ := h
      exact ⟨o, e.trans h1, h2.to l⟩
    | true =>
      obtain ⟨od, o, h1, h2⟩ := h
      exact ⟨od, o, e.trans h1, h2.to l⟩
  | dik kvs =>
    obtain ⟨ys, h1, h2⟩ := h
    exact ⟨ys, e.trans h1, h2.to l⟩
  | set ks => exact h.elim
  | ins cl fs xs =>
    obtain ⟨dx, vs, h1, h2, h3, h4⟩ := h
    exact ⟨dx, vs, e.trans h1, h2, h3, RVs.to l h4⟩
theorem CellR.ob {K : PySem.W.Frag} {w : Wd} {c : Cell} {a : Addr} (h : CellR K w c a) : ∃ o, w.H a = some o ∧ (∀ ps, o ≠ .tbl ps) ∧ (∀ vs, o ≠ .tup vs) := by
  cases c with
  | lst xs =>
    obtain ⟨vs, h1, h2⟩ := h
    exact ⟨_, h1, (fun ps z => by cases z), (fun ps z => by cases z)⟩
  | dic lk kvs =>
    cases lk with
    | false =>
      obtain ⟨o, h1, h2⟩ := h
      rcases h2 with ⟨ys, e, _⟩ | ⟨ys, e, _⟩ <;> (subst e; exact ⟨_, h1, (fun ps z => by cases z), (fun ps z => by cases z)⟩)
    | true =>
      obtain ⟨od, o, h1, h2⟩ := h
      exact ⟨_, h1, (fun ps z => by cases z), (fun ps z => by cases z)⟩
  | dik kvs =>
    obtain ⟨ys, h1, h2⟩ := h
    exact ⟨_, h1, (fun ps z => by cases z), (fun ps z => by cases z)⟩
  | set ks => exact h.elim
  | ins cl fs xs =>
    obtain ⟨dx, vs, h1, h2, h3, h4⟩ := h
    exact ⟨_, h1, (fun ps z => by cases z), (fun ps z => by cases z)⟩
theorem CellR.noExt {K : PySem.W.Frag} {w : Wd} {c : Cell} {a : Addr} (h : CellR K w c a) (φ : Heap → Prop) : w.H a ≠ some (HO.ext φ) := fun z => by
  cases c with
  | lst xs =>
    obtain ⟨vs, h1, h2⟩ := h
    rw [z] at h1
    cases h1
  | dic lk kvs =>
    cases lk with
    | false =>
      obtain ⟨o, h1, h2⟩ := h
      rw [z] at h1
      rcases h2 with ⟨ys, e, _⟩ | ⟨ys, e, _⟩ <;> (subst e; cases h1)
    | true =>
      obtain ⟨od, o, h1, h2⟩ := h
      rw [z] at h1
      cases h1
  | dik kvs =>
    obtain ⟨ys, h1, h2⟩ := h
    rw [z] at h1
    cases h1
  | set ks => exact h.elim
  | ins cl fs xs =>
    obtain ⟨dx, vs, h1, h2, h3, h4⟩ := h
    rw [z] at h1
    cases h1
section
variable {K : PySem.W.Frag} {T : NTabs} {w w' : Wd} {h : Hh}
theorem Rel.at (R : Rel K T w h) {i : Nat} (hi : i < w.n) : ∃ c, h[i]? = some c ∧ CellR K w c (w.m i) := by
  have hl : i < h.length := by rw [← R.len]; exact hi
  exact ⟨h[i], by simp [hl], R.cell i _ (by simp [hl])⟩
theorem Rel.ne (R : Rel K T w h) {p : Addr} (hp : w.H p = none) : w.Off p := fun i hi e => by
  obtain ⟨c, _, hc⟩ := R.at hi
  obtain ⟨o, ho, _⟩ := hc.ob
  rw [e, hp] at ho
  cases ho
theorem Rel.offT (R : Rel K T w h) {p : Addr} {vs : List V} (hp : w.H p = some (.tup vs)) : w.Off p := fun i hi e => by
  obtain ⟨c, _, hc⟩ := R.at hi
  obtain ⟨o, ho, _, nt⟩ := hc.ob
  rw [e, hp] at ho
  exact nt vs (Option.some.inj ho).symm
/-- something of nobody's is laid at p -/
def Wd.lay (w : Wd) (p : Addr) (o : HO) : Wd := ⟨w.m, w.n, upd w.H p o⟩
theorem Wd.le_lay {p : Addr} {o : HO} (hp : w.H p = none) : w.Le (w.lay p o) where
  n := Nat.le_refl _
  m := fun _ _ => rfl
  keep := fun a u e _ _ => by
    show upd w.H p o a = _
    rw [upd_ne (ne_of_none e hp)]
    exact e
  fresh := fun i h1 h2 => absurd h1 (Nat.not_le.mpr h2)
  dom := fun a ha e => by
    by_cases q : a = p
    · rw [q] at ha
      exact ha hp
    · rw [show (w.lay p o).H a = w.H a from upd_ne q] at e
      exact ha e
  frz := fun a od u e => by
    show upd w.H p o a = _
    rw [upd_ne (ne_of_none e hp)]
    exact e
theorem tabs_lay {p : Addr} {o : HO} (ht : NdefX.TabsN T w.H) (hp : w.H p = none) : NdefX.TabsN T (upd w.H p o) := fun q hq => (ht q hq).ext fun a u e => by
  rw [upd_ne (ne_of_none e hp)]
  exact e
theorem Rel.lay (R : Rel K T w h) {p : Addr} {o : HO} (hp : w.H p = none) : Rel K T (w.lay p o) h where
  len := R.len
  inj := R.inj
  cell := fun i c e => by
    have hc := R.cell i c e
    obtain ⟨u, hu, _⟩ := hc.ob
    exact hc.to (Wd.le_lay hp) (by show upd w.H p o _ = _; rw [upd_ne (ne_of_none hu hp)])
  tabs := tabs_lay R.tabs hp
/-- a new object of ours at p -/
def Wd.push (w : Wd) (p : Addr) (o : HO) : Wd := ⟨fun i => if i = w.n then p else w.m i, w.n + 1, upd w.H p o⟩
theorem Wd.le_push {p : Addr} {o : HO} (hp : w.H p = none) : w.Le (w.push p o) where
  n := Nat.le_succ _
  m := fun i hi => by
    show (if i = w.n then p else w.m i) = _
    rw [if_neg (Nat.ne_of_lt hi)]
  keep := fun a u e _ _ => by
    show upd w.H p o a = _
    rw [upd_ne (ne_of_none e hp)]
    exact e
  fresh := fun i h1 h2 => by
    have e : i = w.n := Nat.le_antisymm (Nat.lt_succ_iff.mp h2) h1
    show w.H (if i = w.n then p else w.m i) = none
    rw [if_pos e]
    exact hp
  dom := fun a ha e => by
    by_cases q : a = p
    · rw [q] at ha
      exact ha hp
    · rw [show (w.push p o).H a = w.H a from upd_ne q] at e
      exact ha e
  frz := fun a od u e => by
    show upd w.H p o a = _
    rw [upd_ne (ne_of_none e hp)]
    exact e
theorem Rel.push (R : Rel K T w h) {p : Addr} {o : HO} (hp : w.H p = none) {c : Cell} (hc : CellR K (w.push p o) c p) : Rel K T (w.push p o) (h ++ [c]) where
  len := by
    show w.n + 1 = _
    rw [List.length_append, R.len]
    rfl
  inj := fun i j hi hj e => by
    have hi : i < w.n + 1 := hi
    have hj : j < w.n + 1 := hj
    have e : (if i = w.n then p else w.m i) = (if j = w.n then p else w.m j) := e
    by_cases h1 : i = w.n
    · by_cases h2 : j = w.n
      · rw [h1, h2]
      · rw [if_pos h1, if_neg h2] at e
        exact absurd e.symm (R.ne hp j (by omega))
    · by_cases h2 : j = w.n
      · rw [if_neg h1, if_pos h2] at e
        exact absurd e (R.ne hp i (by omega))
      · rw [if_neg h1, if_neg h2] at e
        exact R.inj i j (by omega) (by omega) e
  cell := fun i c' e => by
    by_cases h1 : i < h.length
    · rw [List.getElem?_append_left h1] at e
      have hc' := R.cell i c' e
      obtain ⟨u, hu, _⟩ := hc'.ob
      have em : (w.push p o).m i = w.m i := (Wd.le_push hp).m i (by rw [R.len]; exact h1)
      rw [em]
      exact hc'.to (Wd.le_push hp) (by show upd w.H p o _ = _; rw [upd_ne (ne_of_none hu hp)])
    · have h2 : i = h.length := by
        have := (List.getElem?_eq_some_iff.mp e).1
        rw [List.length_append] at this
        simp at this
        omega
      subst h2
      simp at e
      subst e
      have em : (w.push p o).m h.length = p := by
        show (if h.length = w.n then p else _) = p
        rw [if_pos R.len.symm]
      rw [em]
      exact hc
  tabs := tabs_lay R.tabs hp
/-- an object of ours is changed -/
def Wd.put (w : Wd) (i : Nat) (o : HO) : Wd := ⟨w.m, w.n, upd w.H (w.m i) o⟩
/-- all but the locks -/
theorem Rel.le_put (R : Rel K T w h) {i : Nat} {o : HO} (hi : i < w.n) (nf : ∀ od u, w.H (w.m i) ≠ some (.frz od u)) : w.Le (w.put i o) where
  n := Nat.le_refl _
  m := fun _ _ => rfl
  keep := fun a u e off _ => by
    show upd w.H (w.m i) o a = _
    rw [upd_ne (Ne.symm (off i hi))]
    exact e
  fresh := fun j h1 h2 => absurd h1 (Nat.not_le.mpr h2)
  dom := fun a ha e => by
    by_cases q : a = w.m i
    · rw [show (w.put i o).H a = some o by rw [q]; exact upd_same] at e
      cases e
    · rw [show (w.put i o).H a = w.H a from upd_ne q] at e
      exact ha e
  frz := fun a od u e => by
    show upd w.H (w.m i) o a = _
    rw [upd_ne (fun z => nf od u (by rw [← z]; exact e))]
    exact e
theorem Rel.put (R : Rel K T w h) {i : Nat} {o : HO} (hi : i < w.n) (nf : ∀ od u, w.H (w.m i) ≠ some (.frz od u)) {c : Cell} (hc : CellR K (w.put i o) c (w.m i)) : Rel K T (w.put i o) (h.set i c) where
  len := by
    rw [List.length_set]
    exact R.len
  inj := R.inj
  cell := fun j c' e => by
    by_cases q : j = i
    · subst q
      have : j < h.length := by rw [← R.len]; exact hi
      rw [List.getElem?_set_self this] at e
      cases e
      exact hc
    · rw [List.getElem?_set_ne (Ne.symm q)] at e
      have hc' := R.cell j c' e
      have hj : j < w.n := by rw [R.len]; exact (List.getElem?_eq_some_iff.mp e).1
      have ne : w.m j ≠ w.m i := fun z => q (R.inj j i hj hi z)
      exact hc'.to (R.le_put hi nf) (by show upd w.H _ _ _ = _; rw [upd_ne ne])
  tabs := fun q hq => by
    obtain ⟨ps, h1, h2, h3⟩ := R.tabs q hq
    obtain ⟨c0, _, hc0⟩ := R.at hi
    obtain ⟨u, hu, nt, _⟩ := hc0.ob
    have hne : q.1 ≠ w.m i := fun z => by
      rw [z, hu] at h1
      exact nt ps (Option.some.inj h1)
    refine ⟨ps, by show upd w.H _ _ _ = _; rw [upd_ne hne]; exact h1, h2, fun pos cv hcv => ?_⟩
    obtain ⟨c, e1, e2⟩ := h3 pos cv hcv
    refine ⟨c, e1, ?_⟩
    show upd w.H _ _ _ = _
    rw [upd_ne]
    · exact e2
    · intro z
      rw [z, hu] at e2
      exact CellR.noExt hc0 _ (hu.trans e2)
end
end PyA
end
section
set_option Elab.async false
set_option linter.all false
set_option maxRecDepth 100000
set_option maxHeartbeats 4000000
/-! PyN: rules that the layer lacks: enumerate over a tuple. -/
namespace PyN
open PySem PySem.Spec PyProof.Rows L2
open AutoSeq1 (wpAny_loadPart')
abbrev titO (l : Addr) : Obj := { cls := .type "tuple_iterator", data := .fields #[.ref l, .int 0 0] }
abbrev enO (a : Addr) : Obj := { cls := .type "enumerate", data := .fields #[.none, .bool false, .ref a, rawInt 0, .none, .none] }
theorem enum_newT (l : Addr) (items : Array Value) (n : Nat) (dct : Option Addr) (sl : Array (Option Value)) :
    Meets (Builtin.«enumerate.__new__» ⟨[.type "enumerate", .ref l], []⟩) (fun _ R s => s.heap.get? l = some { cls := .type "tuple", dict := dct, data := .seq items n, slots := sl } ∧
      R (.ok (.ret (.ref (s.heap.push (titO l)).objs.size))) { s with heap := (s.heap.push (titO l)).push (enO s.heap.objs.size) }) :=
  .of_wp fun prog w A R s h => by
    obtain ⟨hp, g, d, tk, os⟩ := s; obtain ⟨hl, h⟩ := h
    have hsub := sub_enumerate
    have hL : Heap.IsTuple (Shared.heap ⟨hp, g, d, tk, os⟩) l items := ⟨_, hl, rfl, n, rfl⟩
    wp_walk using wpAny_loadPart' hl
    refine wpAny_stack_any fun st => wpAny_pure ?_
    split
    · rename_i c _ _ _ _ _
      cases (c == Value.type "enumerate")
      · wp_walk using wpAny_loadPart' hl, wpAny_pyIter_tuple hL
        exact ⟨_, rfl, h⟩
      · wp_walk using wpAny_loadPart' hl, wpAny_pyIter_tuple hL
        exact ⟨_, rfl, h⟩
    · wp_walk using wpAny_loadPart' hl, wpAny_pyIter_tuple hL
      exact ⟨_, rfl, h⟩
section
variable {prog : Program} {w : World} {A : Around} {E : Value → Shared → Prop} {s : Shared}
theorem call_enumT {l : Addr} {items : Array Value} {Q : Value → Shared → Prop} (hL : s.heap.IsTuple l items)
    (h : ∀ h', IsEnum h' (s.heap.objs.size + 1) s.heap.objs.size 0 .none → h'.IsTupleIter s.heap.objs.size l 0 → (∀ b o, s.heap.get? b = some o → h'.get? b = some o) → Q (.ref (s.heap.objs.size + 1)) { s with heap := h' }) :
    wpAny (model prog w) A (call (.type "enumerate") [.ref l]) Q E s := by
  obtain ⟨⟨c, dct, dt, sl⟩, hl, hc, n, hd⟩ := hL
  replace hc : c = .type "tuple" := hc
  replace hd : dt = .seq items n := hd
  subst hc hd
  refine callType_new F.called_enumerate (by decide) (F.typeCall_enumerate_1 _) (F.newCall_enumerate_1 _) (fun obj => F.args_object_init_2 obj _) F.entry_enumerate_new (enum_newT l items n dct sl) ⟨hl, ?_⟩
  have hz : (s.heap.push (titO l)).objs.size = s.heap.objs.size + 1 := Heap.size_push ..
  show _ ∧ _
  rw [hz]
  have he : IsEnum ((s.heap.push (titO l)).push (enO s.heap.objs.size)) (s.heap.objs.size + 1) s.heap.objs.size 0 .none := by
    have q := Heap.get?_push_size (s.heap.push (titO l)) (o := enO s.heap.objs.size) rfl
    rw [hz] at q
    exact q
  exact ⟨⟨_, he, rfl⟩, h _ he ⟨_, Heap.get?_push_of_some _ (Heap.get?_push_size _ rfl), rfl, rfl⟩ fun b o x => Heap.get?_push_of_some _ (Heap.get?_push_of_some _ x)⟩
theorem enum_endT {e it l : Addr} {i : Nat} {items : Array Value} {old : Value} {Q : Option Value → Shared → Prop} (hh : A.handled = none) (he : IsEnum s.heap e it i old) (hit : s.heap.IsTupleIter it l i) (hl : s.heap.IsTuple l items) (hx : items[i]? = none)
    (hQ : ∀ h', Heap.ExtBut it s.heap h' → Q none { s with heap := h' }) : wpAny (model prog w) A (pyNext (.ref e)) Q E s := by
  have hT : s.TypeIs (.ref e) "enumerate" := ⟨_, he, rfl⟩
  unfold pyNext
  refine wpAny_bind (wpAny_attempt (wpAny_callSpecial?_slot (name := Str.ofString "__next__") hT F.slot_enumerate_next (wpAny_call_entry F.slot_enumerate_next hT F.entry_enumerate_next ?_ (F.args_enumerate_next_1 _))))
  show wpAny _ _ (field (.ref e) 2 >>= _) _ _ _
  refine wpAny_bind (wpAny_field he rfl (x := .ref it) rfl (wpAny_bind (wpAny_nextOf_tuple_end hh hit hl hx fun h' x he' hx' => ?_)))
  obtain ⟨o, ho, hc⟩ := hx'
  exact wpAny_bind (wpAny_isInstance (T := "StopIteration") (b := true) ⟨o, ho, hc⟩ isSubtype_stop (wpAny_pure (hQ _ he')))
end
/-- the pairs (i, item) of a tuple -/
def IteT (K : PySem.W.Frag) (a : Addr) : It :=
  ⟨fun i H => ∃ (xs : List V) (x : V), SqT K H a xs ∧ xs[i]? = some x, fun i H v H' => ∃ T x, v = .ref T ∧ H T = none ∧ H' = upd H T (.tup [.int (i : Nat), x]) ∧ ∀ xs, SqT K H a xs → xs[i]? = some x, fun i H => ∃ xs : List V, SqT K H a xs ∧ xs.length ≤ i⟩
theorem turn_enumT {P : Program} {w : World} {K : PySem.W.Frag} {elts : List Expr} {kk : Nat} {tpos : Pos} (a e it : Addr) :
    Turn P w K (.Tuple elts kk tpos) (IteT K a) [e, it] e (fun i h => (∃ old, IsEnum h e it ((i : Nat) : Int) old) ∧ h.IsTupleIter it a i ∧ e ≠ it) where
  mem := by simp
  obj := fun i h st b hb => by
    obtain ⟨⟨old, he⟩, ⟨o, ho, hc, hd⟩, _⟩ := st
    have e' : b = e ∨ b = it := by simpa using hb
    rcases e' with z | z
    · rw [z]; exact ⟨_, he, fun v q => nomatch q⟩
    · rw [z]; exact ⟨o, ho, fun v q => by rw [hd] at q; cases q⟩
  keep := fun i h h' st k => let ⟨⟨old, he⟩, hi, hne⟩ := st; ⟨⟨old, k e (by simp) _ he⟩, hi.at fun o q => k it (by simp) o q, hne⟩
  item := by
    intro X hP hw hK hc i pins s σ H E I hf st hg
    subst hP hw hK
    obtain ⟨⟨old, he⟩, hit, hne⟩ := st
    obtain ⟨xs, x, hq, hx⟩ := hg
    obtain ⟨its, rv, p, hz⟩ := I.tuple hq
    obtain ⟨u, hu, ru⟩ := rv.get hx
    have hel : e < s.heap.objs.size := Heap.lt_size he
    have hil : it < s.heap.objs.size := by obtain ⟨_, q, _⟩ := hit; exact Heap.lt_size q
    have pt : s.heap.IsTuple a its.toArray := p
    have hta : a ≠ it := by
      rintro rfl
      obtain ⟨o, ho, hc1, _⟩ := pt
      obtain ⟨o', ho', hc', _⟩ := hit
      rw [ho] at ho'; cases ho'
      rw [hc1] at hc'
      exact absurd hc' (by decide)
    have hea : e ≠ a := by
      rintro rfl
      obtain ⟨o, ho, hc1, _⟩ := pt
      rw [show s.heap.get? e = some _ from he] at ho; cases ho
      exact absurd (show Value.type "enumerate" = Value.type "tuple" from hc1) (by decide)
    have hlt : i < its.toArray.size := by
      have := (List.getElem?_eq_some_iff.mp hu).1
      simpa using this
    refine wpAny_pyNext_enum_itemD (Draws.tuple (A := X.A.in1) (show X.A.in1.handled = none from I.ok.hd hc) it a hta its.toArray) he ⟨hit, pt⟩ hlt hne (by simp [hne, hea]) fun y h' tk hy ho hst hT hsz hk => ?_
    have ey : y = u := by
      have z : its.toArray[i]? = some y := hy
      rw [List.getElem?_toArray, hu] at z
      exact (Option.some.inj z).symm
    subst ey
    refine ⟨_, rfl, wpAny_letOwnedTupleGo_enum (s := { s with heap := h', toks := tk + 1 }) ho fun h'' he' sb => ?_⟩
    have hT2 : h''.get? s.heap.objs.size = some { cls := .type "tuple", data := .seq #[.int i tk, y] } := (sb.2 _ (Nat.ne_of_gt hel)).trans hT
    have new : ObjOk X.prog X.w (upd H s.heap.objs.size (.tup [.int (i : Nat), x])) h'' s.heap.objs.size (.tup [.int (i : Nat), x]) :=
      ⟨by show 2 ≤ sizeLine; decide, [.int i tk, y], .cons ⟨_, rfl⟩ (.cons ru .nil), ⟨_, hT2, rfl, _, rfl⟩⟩
    have I1 : Inv X pins σ (upd H s.heap.objs.size (.tup [.int (i : Nat), x])) { s with heap := h'', toks := tk + 1 } :=
      I.turnedNew (ch := [e, it]) (fun b ob hb q => (sb.2 b (fun z => hb (by simp [z]))).trans (hk b ob (fun z => hb (by simp [z])) (fun z => hb (by simp [z])) q)) hf (Nat.le_refl _) new
    refine ⟨.ref s.heap.objs.size, _, I1, rfl, ⟨_, x, rfl, I.hok.fresh (Nat.le_refl _), rfl, fun ys hy => by rw [I.tuple_inj hy hq]; exact hx⟩, ⟨⟨y, ?_⟩, hst.1.at fun o q => (sb.2 it (Ne.symm hne)).trans q, hne⟩, fun b hb => ?_⟩
    · have e1 : ((i + 1 : Nat) : Int) = (i : Int) + 1 := by omega
      rw [e1]; exact he'
    · have hb' : b < s.heap.objs.size := by
        have e' : b = e ∨ b = it := by simpa using hb
        rcases e' with z | z
        · rw [z]; exact hel
        · rw [z]; exact hil
      rw [upd_ne (Nat.ne_of_lt hb')]
      exact (hf b hb).1
  done := by
    intro X hP hw hK hc i pins s σ H E I hf st hg
    subst hP hw hK
    obtain ⟨⟨old, he⟩, hit, hne⟩ := st
    obtain ⟨xs, hq, hx⟩ := hg
    obtain ⟨its, rv, p, hz⟩ := I.tuple hq
    obtain ⟨f0, f1, f2, f3, f4, f5⟩ := hf it (by simp)
    have hl := rv.length
    have pt : s.heap.IsTuple a its.toArray := p
    exact enum_endT (I.ok.hd hc) he hit pt (by simp; omega) fun h' eb => ⟨rfl, I.turned (t' := s.toks) (fun b o hb q => eb b o hb q) f0 f1 f3 f4 f5⟩
  self := fun A i s Q E st h => let ⟨⟨_, he⟩, _⟩ := st; wpAny_pyIter_enum he h
def iEnumT (K : PySem.W.Frag) (ta : TA) : TI := fun σ H R => ta σ H fun vs H1 => ∃ a, vs = [.ref a] ∧ ((∃ xs, SqL K H1 a xs ∧ R (Ite K a) H1) ∨ ∃ xs, SqT K H1 a xs ∧ R (IteT K a) H1)
theorem pi_enumA {X : Cx} {e : Expr} {ta : TA} {p pos tpos : Pos} {elts : List Expr} {kk : Nat} (hg : Gl X "enumerate") (hm : X.mg "enumerate" = none) (ha : PA X [e] ta) (hs : starEach [e] X.env = [(false, eval e X.env)] := by rfl) :
    PI X (.Tuple elts kk tpos) (.Call (.Name "enumerate" p) [e] [] pos) (iEnumT X.K ta) := by
  refine ⟨fun pins s σ H R I h => ?_⟩
  refine Call_ (ld_blt I hg hm boot_enumerate (PyProof.Rows.callWith_type1 (thn (ha.run pos pins s σ H _ I h) fun us s1 ⟨vs, H1, I1, r1, q1⟩ => ?_) hs rfl))
  obtain ⟨a, ex, q1⟩ := q1
  subst ex
  cases r1 with
  | cons r rr =>
    cases rr
    cases r
    have fin : ∀ {h' : Heap} {b : Addr}, (b = s1.heap.objs.size + 1 ∨ b = s1.heap.objs.size) → FpOk X pins H1 b := fun {h' b} e' => by
      have hle : s1.heap.objs.size ≤ b := by
        rcases e' with z | z
        · rw [z]; exact Nat.le_add_right _ _
        · rw [z]; exact Nat.le_refl _
      exact I1.fpOk hle (I1.hok.fresh hle)
    rcases q1 with ⟨xs, hq, q⟩ | ⟨xs, hq, q⟩
    · obtain ⟨its, rv, p', hz⟩ := I1.list hq
      refine call_enumerate_list p'.isList fun h' he hit hsz hk => wpAny_pyIter_enum he ?_
      exact ⟨s1.heap.objs.size + 1, [s1.heap.objs.size + 1, s1.heap.objs.size], _, _, H1, rfl, I1.kept (t' := s1.toks) hk, turn_enum a (s1.heap.objs.size + 1) s1.heap.objs.size, ⟨⟨.none, he⟩, hit, Nat.succ_ne_self _⟩, fun b hb => fin (h' := h') (by simpa using hb), q⟩
    · obtain ⟨its, rv, p', hz⟩ := I1.tuple hq
      refine call_enumT (show s1.heap.IsTuple a its.toArray from p') fun h' he hit hk => wpAny_pyIter_enum he ?_
      exact ⟨s1.heap.objs.size + 1, [s1.heap.objs.size + 1, s1.heap.objs.size], _, _, H1, rfl, I1.kept (t' := s1.toks) hk, turn_enumT a (s1.heap.objs.size + 1) s1.heap.objs.size, ⟨⟨.none, he⟩, hit, Nat.succ_ne_self _⟩, fun b hb => fin (h' := h') (by simpa using hb), q⟩
/-- a list, a tuple, a text: walked as what it is -/
def iSeq (K : PySem.W.Frag) (tl : TE) : TI := fun σ H R => tl σ H fun x H1 => (∃ a xs, x = .ref a ∧ SqL K H1 a xs ∧ R (Itl K a) H1) ∨ (∃ a xs, x = .ref a ∧ SqT K H1 a xs ∧ R (Itt K a) H1) ∨ ∃ z, x = .str z ∧ R (Its z) H1
theorem pi_seq {X : Cx} {tg l : Expr} {tl : TE} (hl : PE X l tl) : PI X tg l (iSeq X.K tl) := by
  refine ⟨fun pins s σ H R I h => ?_⟩
  refine thn (hl.run pins s σ H _ I h) fun v s1 ⟨x, H1, I1, r1, q1⟩ => ?_
  rcases q1 with ⟨a, xs, e, hq, q⟩ | ⟨a, xs, e, hq, q⟩ | ⟨z, e, q⟩
  · subst e
    cases r1
    obtain ⟨its, rv, p, hz⟩ := I1.list hq
    refine wpAny_pyIter_list p.isList ?_
    refine ⟨s1.heap.objs.size, [s1.heap.objs.size], _, _, H1, rfl, I1.kept (t' := s1.toks) fun b o e => Heap.get?_push_of_some _ e, turn_list a _, ⟨_, Heap.get?_push_size _ rfl, rfl, rfl⟩, fun b hb => ?_, q⟩
    have e : b = s1.heap.objs.size := by simpa using hb
    rw [e]
    exact I1.fpOk (Nat.le_refl _) (I1.hok.fresh (Nat.le_refl _))
  · subst e
    cases r1
    obtain ⟨its, rv, p, hz⟩ := I1.tuple hq
    refine wpAny_pyIter_tuple (show s1.heap.IsTuple a its.toArray from p) ?_
    refine ⟨s1.heap.objs.size, [s1.heap.objs.size], _, _, H1, rfl, I1.kept (t' := s1.toks) fun b o e => Heap.get?_push_of_some _ e, turn_tuple a _, ⟨_, Heap.get?_push_size _ rfl, rfl, rfl⟩, fun b hb => ?_, q⟩
    have e : b = s1.heap.objs.size := by simpa using hb
    rw [e]
    exact I1.fpOk (Nat.le_refl _) (I1.hok.fresh (Nat.le_refl _))
  · subst e
    obtain ⟨t, rfl⟩ := r1
    cases ha : z.cps.all (· < 128)
    · exact wpAny_pyIter_wide ha (pi_one (tk := s1.toks) I1 _ (turn_str _ z t "str_iterator" (.inr rfl)) ⟨_, Heap.get?_push_size _ rfl, rfl, rfl⟩ q)
    · exact wpAny_pyIter_ascii ha (pi_one (tk := s1.toks) I1 _ (turn_str _ z t "str_ascii_iterator" (.inl rfl)) ⟨_, Heap.get?_push_size _ rfl, rfl, rfl⟩ q)
end PyN
end
section
set_option Elab.async false
set_option linter.all false
set_option maxRecDepth 100000
set_option maxHeartbeats 4000000
/-! PyS: the readings over abstract values are sound: one theorem a construct. -/
namespace PyA
open PySem L2

def EnvR (K : PySem.W.Frag) (w : Wd) (env : Ev) (σ : L2.St) : Prop := env.length = σ.length ∧ ∀ (i : Nat) (x : PV), env[i]? = some (some x) → ∃ v, σ[i]? = some (some v) ∧ RV K w x v
theorem EnvR.to {K : PySem.W.Frag} {w w' : Wd} {env : Ev} {σ : L2.St} (E : EnvR K w env σ) (l : w.Le w') : EnvR K w' env σ :=
  ⟨E.1, fun i x e => let ⟨v, h1, h2⟩ := E.2 i x e; ⟨v, h1, h2.to l⟩⟩
theorem EnvR.set {K : PySem.W.Frag} {w : Wd} {env : Ev} {σ : L2.St} (E : EnvR K w env σ) (i : Nat) {x : PV} {v : V} (r : RV K w x v) : EnvR K w (env.set i (some x)) (σ.set i (some v)) := by
  refine ⟨by rw [List.length_set, List.length_set]; exact E.1, fun j y e => ?_⟩
  by_cases q : i = j
  · subst q
    have hl : i < env.length := by
      have := (List.getElem?_eq_some_iff.mp e).1
      simpa using this
    rw [List.getElem?_set_self hl] at e
    cases e
    exact ⟨v, by rw [List.getElem?_set_self (by rw [← E.1]; exact hl)], r⟩
  · rw [List.getElem?_set_ne q] at e
    rw [List.getElem?_set_ne q]
    exact E.2 j y e
/-- an exception as it lies -/
def ExR (K : PySem.W.Frag) (w : Wd) (x : Exn) (cls : Value) (d : Option Addr) : Prop :=
  cls = .ref (He.ga K x.c) ∧ ((x.fs = [] ∧ x.vs = [] ∧ d = none) ∨ ∃ dd vs, d = some dd ∧ w.Off dd ∧ w.H dd = some (.xd (x.fs.zip vs)) ∧ x.fs.length = vs.length ∧ RVs K w x.vs vs)

/-! ### the lifts -/
abbrev qx (K : PySem.W.Frag) (T : NTabs) (W : WX) (w : Wd) (σ : L2.St) : QX := fun x h' => ∀ w' cls d, Rel K T w' h' → w.Le w' → ExR K w' x cls d → W cls d σ w'.H
def tE (K : PySem.W.Frag) (T : NTabs) (W : WX) (A : AE) : TE := fun σ H Q => ∃ (w : Wd) (env : Ev) (h : Hh), w.H = H ∧ Rel K T w h ∧ EnvR K w env σ ∧
  A.run env h (fun x h' => ∀ w' v, Rel K T w' h' → w.Le w' → RV K w' x v → Q v w'.H) (qx K T W w σ)
def tT (K : PySem.W.Frag) (T : NTabs) (W : WX) (A : AT) : TT := fun σ H Q => ∃ (w : Wd) (env : Ev) (h : Hh), w.H = H ∧ Rel K T w h ∧ EnvR K w env σ ∧
  A.run env h (fun b h' => ∀ w', Rel K T w' h' → w.Le w' → Q b w'.H) (qx K T W w σ)
def tA (K : PySem.W.Frag) (T : NTabs) (W : WX) (A : AA) : TA := fun σ H Q => ∃ (w : Wd) (env : Ev) (h : Hh), w.H = H ∧ Rel K T w h ∧ EnvR K w env σ ∧
  A.run env h (fun xs h' => ∀ w' vs, Rel K T w' h' → w.Le w' → RVs K w' xs vs → Q vs w'.H) (qx K T W w σ)
def tO2 (K : PySem.W.Frag) (T : NTabs) (o : AO2) : R2 := fun v u H Q => ∃ (w : Wd) (h : Hh) (x y : PV), w.H = H ∧ Rel K T w h ∧ RV K w x v ∧ RV K w y u ∧
  o.run x y h (fun z h' => ∀ w' zv, Rel K T w' h' → w.Le w' → RV K w' z zv → Q zv w'.H)
def tON (K : PySem.W.Frag) (T : NTabs) (o : AON) : List V → Hp → VK → Prop := fun vs H Q => ∃ (w : Wd) (h : Hh) (xs : List PV), w.H = H ∧ Rel K T w h ∧ RVs K w xs vs ∧
  o.run xs h (fun z h' => ∀ w' zv, Rel K T w' h' → w.Le w' → RV K w' z zv → Q zv w'.H)
def low (K : PySem.W.Frag) (T : NTabs) (W : WX) (w : Wd) (D : Ends) : AD where
  nx := fun e' h' => ∀ w' σ', Rel K T w' h' → w.Le w' → EnvR K w' e' σ' → D.nx σ' w'.H
  rt := fun x h' => ∀ w' v, Rel K T w' h' → w.Le w' → RV K w' x v → D.rt v w'.H
  bk := fun e' h' => ∀ w' σ', Rel K T w' h' → w.Le w' → EnvR K w' e' σ' → D.bk σ' w'.H
  ct := fun e' h' => ∀ w' σ', Rel K T w' h' → w.Le w' → EnvR K w' e' σ' → D.ct σ' w'.H
  ex := fun x e' h' => ∀ w' σ' cls d, Rel K T w' h' → w.Le w' → EnvR K w' e' σ' → ExR K w' x cls d → W cls d σ' w'.H
def tS (K : PySem.W.Frag) (T : NTabs) (W : WX) (A : AS) : TS := fun D σ H => ∃ (w : Wd) (env : Ev) (h : Hh), w.H = H ∧ Rel K T w h ∧ EnvR K w env σ ∧ A.run (low K T W w D) env h
/-- all slots but these stay -/
def SlotsBut (S : List Nat) (σ σ' : L2.St) : Prop := σ'.length = σ.length ∧ ∀ j, j ∉ S → σ'[j]? = σ[j]?
def tG (K : PySem.W.Frag) (T : NTabs) (S : List Nat) (A : AG) : TG := fun v σ H Q => ∃ (w : Wd) (env : Ev) (h : Hh) (x : PV), w.H = H ∧ Rel K T w h ∧ EnvR K w env σ ∧ RV K w x v ∧
  A.run x env h (fun e' h' => ∀ w' σ', Rel K T w' h' → w.Le w' → EnvR K w' e' σ' → SlotsBut S σ σ' → Q σ' w'.H)
def Fits (K : PySem.W.Frag) (T : NTabs) (J : Itr) (JJ : It) (w0 : Wd) : Prop := ∀ (i : Nat) (w : Wd) (h : Hh), w0.Le w → Rel K T w h → J.ok h →
  (i = J.items.length → JJ.stop i w.H) ∧ ∀ x, J.items[i]? = some x → JJ.go i w.H ∧ ∀ v H', JJ.yld i w.H v H' → ∃ w', w'.H = H' ∧ Rel K T w' h ∧ w.Le w' ∧ RV K w' x v
def tI (K : PySem.W.Frag) (T : NTabs) (W : WX) (A : AI) : TI := fun σ H R => ∃ (w : Wd) (env : Ev) (h : Hh), w.H = H ∧ Rel K T w h ∧ EnvR K w env σ ∧
  A.run env h (fun J h' => ∀ w' JJ, Rel K T w' h' → w.Le w' → Fits K T J JJ w' → R JJ w'.H) (qx K T W w σ)

theorem qx_le {K : PySem.W.Frag} {T : NTabs} {W : WX} {w w1 : Wd} {σ : L2.St} (l : w.Le w1) {x : Exn} {h : Hh} (q : qx K T W w σ x h) : qx K T W w1 σ x h := fun w' cls d R L e => q w' cls d R (l.trans L) e
theorem low_le {K : PySem.W.Frag} {T : NTabs} {W : WX} {w w1 : Wd} (l : w.Le w1) (D : Ends) : (low K T W w D).Le (low K T W w1 D) where
  nx := fun e h q w' σ' R L E => q w' σ' R (l.trans L) E
  rt := fun x h q w' v R L r => q w' v R (l.trans L) r
  bk := fun e h q w' σ' R L E => q w' σ' R (l.trans L) E
  ct := fun e h q w' σ' R L E => q w' σ' R (l.trans L) E
  ex := fun x e h q w' σ' cls d R L E r => q w' σ' cls d R (l.trans L) E r
theorem AD.Le.refl (D : AD) : D.Le D := ⟨fun _ _ q => q, fun _ _ q => q, fun _ _ q => q, fun _ _ q => q, fun _ _ _ q => q⟩
theorem AD.Le.nxt {D : AD} {f g : Ev → Hh → Prop} (h : ∀ e g', f e g' → g e g') : AD.Le { D with nx := f } { D with nx := g } := ⟨h, fun _ _ q => q, fun _ _ q => q, fun _ _ q => q, fun _ _ _ q => q⟩
theorem AD.Le.nxd {D D' : AD} {f g : Ev → Hh → Prop} (l : D.Le D') (h : ∀ e g', f e g' → g e g') : AD.Le { D with nx := f } { D' with nx := g } := ⟨h, l.rt, l.bk, l.ct, l.ex⟩

section
variable {X : Cx} {T : NTabs} {W : WX} {e a b c : Expr} {pos : Pos}
theorem peImp {t t' : TE} (h : PE X e t) (i : ∀ σ H Q, t' σ H Q → t σ H Q) : PE X e t' := ⟨fun pins s σ H Q I q => h.run pins s σ H Q I (i σ H Q q)⟩
theorem ptImp {t t' : TT} (h : PT X e t) (i : ∀ σ H Q, t' σ H Q → t σ H Q) : PT X e t' := ⟨fun pins s σ H Q I q => h.run pins s σ H Q I (i σ H Q q)⟩
theorem pwImp {t t' : TT} (h : PW X e t) (i : ∀ σ H Q, t' σ H Q → t σ H Q) : PW X e t' := ⟨fun wh pins s σ H Q I q => h.run wh pins s σ H Q I (i σ H Q q)⟩
theorem paImp {es : List Expr} {t t' : TA} (h : PA X es t) (i : ∀ σ H Q, t' σ H Q → t σ H Q) : PA X es t' := ⟨fun p pins s σ H Q I q => h.run p pins s σ H Q I (i σ H Q q)⟩
theorem psImp {st : Stmt} {t t' : TS} (h : PS X st t) (i : ∀ D σ H, t' D σ H → t D σ H) : PS X st t' := ⟨fun pins s σ H D I q => h.run pins s σ H D I (i D σ H q)⟩
theorem pssImp {st : List Stmt} {t t' : TS} (h : PSs X st t) (i : ∀ D σ H, t' D σ H → t D σ H) : PSs X st t' := ⟨fun pins s σ H D I q => h.run pins s σ H D I (i D σ H q)⟩
theorem pgImp {t t' : TG} (h : PG X e t) (i : ∀ v σ H Q, t' v σ H Q → t v σ H Q) : PG X e t' := ⟨fun pins s σ H v u Q I r q => h.run pins s σ H v u Q I r (i v σ H Q q)⟩
theorem piImp {tg : Expr} {t t' : TI} (h : PI X tg e t) (i : ∀ σ H R, t' σ H R → t σ H R) : PI X tg e t' := ⟨fun pins s σ H R I q => h.run pins s σ H R I (i σ H R q)⟩
theorem opImp {f : Value → Value → Sem Value} {r r' : R2} (h : OpR X f r) (i : ∀ x y H Q, r' x y H Q → r x y H Q) : OpR X f r' := fun pins s σ H x y v u Q I rx ry q => h pins s σ H x y v u Q I rx ry (i x y H Q q)
theorem callImp {f : Value} {r r' : List V → Hp → VK → Prop} (h : CallR X f r) (i : ∀ xs H Q, r' xs H Q → r xs H Q) : CallR X f r' := fun pins s σ H xs us Q I rx q => h pins s σ H xs us Q I rx (i xs H Q q)

abbrev SE (X : Cx) (T : NTabs) (W : WX) (e : Expr) (A : AE) : Prop := PE X e (tE X.K T W A)
abbrev ST (X : Cx) (T : NTabs) (W : WX) (e : Expr) (A : AT) : Prop := PT X e (tT X.K T W A)
abbrev SW (X : Cx) (T : NTabs) (W : WX) (e : Expr) (A : AT) : Prop := PW X e (tT X.K T W A)
abbrev SA (X : Cx) (T : NTabs) (W : WX) (es : List Expr) (A : AA) : Prop := PA X es (tA X.K T W A)
abbrev SS (X : Cx) (T : NTabs) (W : WX) (st : Stmt) (A : AS) : Prop := PS X st (tS X.K T W A)
abbrev SSs (X : Cx) (T : NTabs) (W : WX) (st : List Stmt) (A : AS) : Prop := PSs X st (tS X.K T W A)
abbrev SG (X : Cx) (T : NTabs) (S : List Nat) (tg : Expr) (A : AG) : Prop := PG X tg (tG X.K T S A)
abbrev SI (X : Cx) (T : NTabs) (W : WX) (tg iter : Expr) (A : AI) : Prop := PI X tg iter (tI X.K T W A)
abbrev OpS (X : Cx) (T : NTabs) (f : Value → Value → Sem Value) (o : AO2) : Prop := OpR X f (tO2 X.K T o)
abbrev CaS (X : Cx) (T : NTabs) (f : Value) (o : AON) : Prop := CallR X f (tON X.K T o)

/-! ### names, constants -/
def aVar (i : Nat) : AE := ⟨fun e h Q _ => ∃ x, e[i]? = some (some x) ∧ Q x h, fun ⟨x, e, q⟩ f _ => ⟨x, e, f _ _ q⟩⟩
def aC (x : PV) : AE := ⟨fun _ h Q _ => Q x h, fun q f _ => f _ _ q⟩
theorem se_var (i : Nat) {x : Str} (hN : X.N[i]? = some x := by rfl) (hv : Vis X.env.scope x := by first | exact Or.inl rfl | exact Or.inr (Or.inl rfl) | exact Or.inr (Or.inr rfl)) (hd : (x == ("__debug__" : Str)) = false := by decide)
    (hcd : (x == ("__classdict__" : Str)) = false := by decide) : SE X T W (.Name x pos) (aVar i) :=
  peImp (pe_var hN hv hd hcd) fun σ H Q ⟨w, env, h, e, R, E, x, e1, q⟩ => by
    obtain ⟨v, e2, r⟩ := E.2 i x e1
    exact ⟨v, e2, e ▸ q w v R (Wd.Le.refl w) r⟩
theorem se_c {x : PV} {v : V} (hp : PE X e (tC v)) (hr : ∀ w, RV X.K w x v) : SE X T W e (aC x) :=
  peImp hp fun σ H Q ⟨w, env, h, e, R, E, q⟩ => e ▸ q w v R (Wd.Le.refl w) (hr w)
theorem se_int {i : Int} {j : Nat} : SE X T W (.Constant (.int i) j pos) (aC (.int i)) := se_c pe_int fun w => by rw [RV]
theorem se_bl {i : Bool} {j : Nat} : SE X T W (.Constant (.bool i) j pos) (aC (.bl i)) := se_c pe_bl fun w => by rw [RV]
theorem se_non {j : Nat} : SE X T W (.Constant .none j pos) (aC .non) := se_c pe_non fun w => by rw [RV]
theorem se_str {i : Str} {j : Nat} : SE X T W (.Constant (.str i) j pos) (aC (.str i)) := se_c pe_str fun w => by rw [RV]
theorem se_glob {x : Str} (hg : Gl X x) (hm : X.mg x = some (.ref (He.ga X.K x))) (hd : (x == ("__debug__" : Str)) = false := by decide) : SE X T W (.Name x pos) (aC (.gf x)) := se_c (pe_glob (v := .ref (He.ga X.K x)) hg hm rfl hd) fun w => by rw [RV]
theorem se_gint {x : Str} {i : Int} (hg : Gl X x) (hm : ∃ t, X.mg x = some (.int i t)) (hd : (x == ("__debug__" : Str)) = false := by decide) : SE X T W (.Name x pos) (aC (.int i)) := by
  obtain ⟨t, hm⟩ := hm
  exact se_c (pe_glob (v := .int i) hg hm ⟨t, rfl⟩ hd) fun w => by rw [RV]
theorem se_gstr {x y : Str} (hg : Gl X x) (hm : ∃ t, X.mg x = some (.str y t)) (hd : (x == ("__debug__" : Str)) = false := by decide) : SE X T W (.Name x pos) (aC (.str y)) := by
  obtain ⟨t, hm⟩ := hm
  exact se_c (pe_glob (v := .str y) hg hm ⟨t, rfl⟩ hd) fun w => by rw [RV]
theorem se_bty {x : Str} {n : String} (hg : Gl X x) (hm : X.mg x = none) (hv : bootBuiltins x = some (.type n)) (hn : x ≠ "__name__" := by decide) (hd : (x == ("__debug__" : Str)) = false := by decide) : SE X T W (.Name x pos) (aC (.ty n)) :=
  se_c (pe_bltn (v := .ty n) hg hm hv rfl hn hd) fun w => by rw [RV]

/-! ### arguments, displays -/
def aNil : AA := ⟨fun _ h Q _ => Q [] h, fun q f _ => f _ _ q⟩
def aCons (A : AE) (B : AA) : AA := ⟨fun e h Q R => A.run e h (fun x h1 => B.run e h1 (fun xs h2 => Q (x :: xs) h2) R) R,
  fun q f g => A.mono q (fun x h1 q1 => B.mono q1 (fun xs h2 q2 => f _ _ q2) g) g⟩
theorem sa_nil : SA X T W [] aNil := paImp pa_nil fun σ H Q ⟨w, env, h, e, R, E, q⟩ => e ▸ q w [] R (Wd.Le.refl w) RVs.nil
theorem sa_cons {es : List Expr} {A : AE} {B : AA} (ha : SE X T W e A) (hb : SA X T W es B) (hs : starEach (e :: es) X.env = (false, eval e X.env) :: starEach es X.env := by rfl) : SA X T W (e :: es) (aCons A B) :=
  paImp (pa_cons ha hb hs) fun σ H Q ⟨w, env, h, e, R, E, q⟩ => ⟨w, env, h, e, R, E, A.mono q (fun x h1 q1 w1 v1 R1 L1 r1 => ⟨w1, env, h1, rfl, R1, E.to L1, B.mono q1 (fun xs h2 q2 w2 vs R2 L2 r2 => q2 w2 _ R2 (L1.trans L2) (RVs.cons (r1.to L2) r2)) fun x h2 q2 => qx_le L1 q2⟩) fun _ _ q1 => q1⟩
/-- a new tuple; a new list -/
def aTup (A : AA) : AE := ⟨fun e h Q R => A.run e h (fun xs h1 => xs.length ≤ sizeLine ∧ Q (.tup xs) h1) R, fun q f g => A.mono q (fun _ _ ⟨l, q1⟩ => ⟨l, f _ _ q1⟩) g⟩
def aLst (A : AA) : AE := ⟨fun e h Q R => A.run e h (fun xs h1 => xs.length ≤ sizeLine ∧ Q (.loc h1.length) (h1 ++ [.lst xs])) R, fun q f g => A.mono q (fun _ _ ⟨l, q1⟩ => ⟨l, f _ _ q1⟩) g⟩
section
variable {K : PySem.W.Frag} {w : Wd} {h : Hh}
theorem newTup (R : Rel K T w h) {p : Addr} {xs : List PV} {vs : List V} (hp : w.H p = none) (r : RVs K w xs vs) : Rel K T (w.lay p (.tup vs)) h ∧ w.Le (w.lay p (.tup vs)) ∧ RV K (w.lay p (.tup vs)) (.tup xs) (.ref p) := by
  refine ⟨R.lay hp, Wd.le_lay hp, ?_⟩
  rw [RV]
  exact ⟨p, vs, rfl, ⟨R.ne hp, upd_same⟩, r.to (Wd.le_lay hp)⟩
theorem newLst (R : Rel K T w h) {p : Addr} {xs : List PV} {vs : List V} (hp : w.H p = none) (r : RVs K w xs vs) : Rel K T (w.push p (.lst vs)) (h ++ [.lst xs]) ∧ w.Le (w.push p (.lst vs)) ∧ RV K (w.push p (.lst vs)) (.loc h.length) (.ref p) := by
  refine ⟨R.push hp ⟨vs, upd_same, r.to (Wd.le_push hp)⟩, Wd.le_push hp, ?_⟩
  rw [RV]
  refine ⟨by show _ < w.n + 1; rw [R.len]; exact Nat.lt_succ_self _, ?_⟩
  show V.ref p = V.ref (if h.length = w.n then p else _)
  rw [if_pos R.len.symm]
end
theorem se_tup {es : List Expr} {A : AA} {k : Nat} (ha : SA X T W es A) : SE X T W (.Tuple es k pos) (aTup A) :=
  peImp (pe_tup ha) fun σ H Q ⟨w, env, h, e, R, E, q⟩ => ⟨w, env, h, e, R, E, A.mono q (fun xs h1 ⟨l, q1⟩ w1 vs R1 L1 r1 => ⟨by rw [← r1.length]; exact l, fun p hp => by
    obtain ⟨a1, a2, a3⟩ := newTup R1 hp r1
    exact q1 _ _ a1 (L1.trans a2) a3⟩) fun _ _ q1 => q1⟩
theorem se_lst {es : List Expr} {A : AA} (ha : SA X T W es A) : SE X T W (.List es pos) (aLst A) :=
  peImp (pe_lst ha) fun σ H Q ⟨w, env, h, e, R, E, q⟩ => ⟨w, env, h, e, R, E, A.mono q (fun xs h1 ⟨l, q1⟩ w1 vs R1 L1 r1 => ⟨by rw [← r1.length]; exact l, fun p hp => by
    obtain ⟨a1, a2, a3⟩ := newLst R1 hp r1
    exact q1 _ _ a1 (L1.trans a2) a3⟩) fun _ _ q1 => q1⟩

/-! ### operations on values -/
def aO2 (o : AO2) (A B : AE) : AE := ⟨fun e h Q R => A.run e h (fun x h1 => B.run e h1 (fun y h2 => o.run x y h2 Q) R) R,
  fun q f g => A.mono q (fun _ _ q1 => B.mono q1 (fun _ _ q2 => o.mono q2 f) g) g⟩
def aON (o : AON) (A : AA) : AE := ⟨fun e h Q R => A.run e h (fun xs h1 => o.run xs h1 Q) R, fun q f g => A.mono q (fun _ _ q1 => o.mono q1 f) g⟩
theorem o2_of {o : AO2} {A B : AE} {σ : L2.St} {H : Hp} {Q : VK} (q : tE X.K T W (aO2 o A B) σ H Q) : tOp (tO2 X.K T o) (tE X.K T W A) (tE X.K T W B) σ H Q := by
  obtain ⟨w, env, h, e, R, E, q⟩ := q
  exact ⟨w, env, h, e, R, E, A.mono q (fun x h1 q1 w1 v1 R1 L1 r1 => ⟨w1, env, h1, rfl, R1, E.to L1, B.mono q1 (fun y h2 q2 w2 v2 R2 L2 r2 =>
    ⟨w2, h2, x, y, rfl, R2, r1.to L2, r2, o.mono q2 fun z h3 q3 w3 zv R3 L3 r3 => q3 w3 zv R3 (L1.trans (L2.trans L3)) r3⟩) fun x h2 q2 => qx_le L1 q2⟩) fun _ _ q1 => q1⟩
theorem se_bin {op : Operator} {o : AO2} {A B : AE} (ho : OpS X T (binaryOp op) o) (ha : SE X T W a A) (hb : SE X T W b B) : SE X T W (.BinOp a op b pos) (aO2 o A B) := peImp (pe_op ho ha hb) fun _ _ _ q => o2_of q
theorem se_cmp {op : CmpOp} {o : AO2} {A B : AE} (ho : OpS X T (compareOp op) o) (ha : SE X T W a A) (hb : SE X T W b B) (hm : behindInMarks op b = false) : SE X T W (.Compare a [op] [b] pos) (aO2 o A B) := peImp (pe_cmpR ho ha hb hm) fun _ _ _ q => o2_of q
theorem on_of {o : AON} {A : AA} {σ : L2.St} {H : Hp} {Q : VK} (q : tE X.K T W (aON o A) σ H Q) : tCB (tON X.K T o) (tA X.K T W A) σ H Q := by
  obtain ⟨w, env, h, e, R, E, q⟩ := q
  exact ⟨w, env, h, e, R, E, A.mono q (fun xs h1 q1 w1 vs R1 L1 r1 => ⟨w1, h1, xs, rfl, R1, r1, o.mono q1 fun z h3 q3 w3 zv R3 L3 r3 => q3 w3 zv R3 (L1.trans L3) r3⟩) fun _ _ q1 => q1⟩
theorem se_blt {id : String} {x : Str} {p : Pos} {es : List Expr} {o : AON} {A : AA} (hc : CaS X T (.builtin id) o) (hg : Gl X x) (hm : X.mg x = none) (hv : bootBuiltins x = some (.builtin id)) (ha : SA X T W (e :: es) A) (hn : x ≠ "__name__" := by decide) (hdb : (x == ("__debug__" : Str)) = false := by decide)
    (he : starEach (e :: es) X.env = (false, eval e X.env) :: starEach es X.env := by rfl) (hpl : (backTo pos (starEach es X.env)).any (·.1) = false := by rfl) : SE X T W (.Call (.Name x p) (e :: es) [] pos) (aON o A) :=
  peImp (pe_callB hc hg hm hv ha hn hdb he hpl) fun _ _ _ q => on_of q
theorem se_bltT {id : String} {x : Str} {p : Pos} {es : List Expr} {o : AON} {A : AA} (hc : CaS X T (.type id) o) (hg : Gl X x) (hm : X.mg x = none) (hv : bootBuiltins x = some (.type id)) (ha : SA X T W (e :: es) A) (hn : x ≠ "__name__" := by decide) (hdb : (x == ("__debug__" : Str)) = false := by decide)
    (he : starEach (e :: es) X.env = (false, eval e X.env) :: starEach es X.env := by rfl) (hpl : (backTo pos (starEach es X.env)).any (·.1) = false := by rfl) : SE X T W (.Call (.Name x p) (e :: es) [] pos) (aON o A) :=
  peImp (pe_callTy hc hg hm hv ha hn hdb he hpl) fun _ _ _ q => on_of q

/-! ### tests -/
def aTB (A : AE) : AT := ⟨fun e h Q R => A.run e h (fun x h1 => ∃ b, x = .bl b ∧ Q b h1) R, fun q f g => A.mono q (fun _ _ ⟨b, e, q1⟩ => ⟨b, e, f _ _ q1⟩) g⟩
theorem tb_of {A : AE} {σ : L2.St} {H : Hp} {Q : Bool → Hp → Prop} (q : tT X.K T W (aTB A) σ H Q) : tE X.K T W A σ H (fun x H1 => ∃ c, x = .bl c ∧ Q c H1) := by
  obtain ⟨w, env, h, e, R, E, q⟩ := q
  exact ⟨w, env, h, e, R, E, A.mono q (fun x h1 ⟨b, e1, q1⟩ w1 v1 R1 L1 r1 => by
    subst e1
    rw [RV] at r1
    exact ⟨b, r1, q1 w1 R1 L1⟩) fun _ _ q1 => q1⟩
/-- a comparison as a test -/
theorem st_cmp {op : CmpOp} {o : AO2} {A B : AE} (ho : OpS X T (compareOp op) o) (ha : SE X T W a A) (hb : SE X T W b B) (hm : behindInMarks op b = false) : ST X T W (.Compare a [op] [b] pos) (aTB (aO2 o A B)) :=
  ptImp (pt_cmpR ho ha hb hm) fun σ H Q q => o2_of (tb_of q)
/-- a truth as a test -/
theorem st_val {A : AE} (ha : SE X T W e A) (he : ∀ whole, isTrue e X.env whole = (do let v ← whole; standAt e.pos; holding [v] (truthy v)) := by intro _; rfl) : ST X T W e (aTB A) :=
  ptImp (pt_val ha he) fun σ H Q q => tb_of q
/-- a op b op' c -/
def aChain (o o' : AO2) (A B C : AE) : AE := ⟨fun e h Q R => A.run e h (fun x h1 => B.run e h1 (fun y h2 => o.run x y h2 fun z h3 => ∃ k, z = .bl k ∧ if k = true then C.run e h3 (fun u h4 => o'.run y u h4 Q) R else Q (.bl false) h3) R) R,
  fun q f g => A.mono q (fun _ _ q1 => B.mono q1 (fun _ _ q2 => o.mono q2 fun _ _ ⟨k, e, q3⟩ => ⟨k, e, by
    cases k with
    | true => exact C.mono q3 (fun _ _ q4 => o'.mono q4 f) g
    | false => exact f _ _ q3⟩) g) g⟩
theorem chain_of {o o' : AO2} {A B C : AE} {σ : L2.St} {H : Hp} {Q : VK} (q : tE X.K T W (aChain o o' A B C) σ H Q) : tChain (tO2 X.K T o) (tO2 X.K T o') (tE X.K T W A) (tE X.K T W B) (tE X.K T W C) σ H Q := by
  obtain ⟨w, env, h, e, R, E, q⟩ := q
  refine ⟨w, env, h, e, R, E, A.mono q (fun x h1 q1 w1 v1 R1 L1 r1 => ⟨w1, env, h1, rfl, R1, E.to L1, B.mono q1 (fun y h2 q2 w2 v2 R2 L2 r2 =>
    ⟨w2, h2, x, y, rfl, R2, r1.to L2, r2, o.mono q2 fun z h3 ⟨k, e1, q3⟩ w3 zv R3 L3 r3 => ?_⟩) fun x h2 q2 => qx_le L1 q2⟩) fun _ _ q1 => q1⟩
  subst e1
  rw [RV] at r3
  refine ⟨k, r3, ?_⟩
  cases k with
  | false => exact q3 w3 (.bl false) R3 (L1.trans (L2.trans L3)) (by rw [RV])
  | true => exact ⟨w3, env, h3, rfl, R3, E.to (L1.trans (L2.trans L3)), C.mono q3 (fun u h4 q4 w4 uv R4 L4 r4 =>
      ⟨w4, h4, y, u, rfl, R4, r2.to (L3.trans L4), r4, o'.mono q4 fun z h5 q5 w5 zv R5 L5 r5 => q5 w5 zv R5 (L1.trans (L2.trans (L3.trans (L4.trans L5)))) r5⟩) fun x h4 q4 => qx_le (L1.trans (L2.trans L3)) q4⟩
theorem se_chain {op op' : CmpOp} {o o' : AO2} {A B C : AE} (ho : OpS X T (compareOp op) o) (ho' : OpS X T (compareOp op') o') (ha : SE X T W a A) (hb : SE X T W b B) (hc : SE X T W c C)
    (hm : lastMarks [op, op'] [b, c] = false := by with_unfolding_all rfl) : SE X T W (.Compare a [op, op'] [b, c] pos) (aChain o o' A B C) := peImp (pe_chain ho ho' ha hb hc hm) fun _ _ _ q => chain_of q
theorem st_chain {op op' : CmpOp} {o o' : AO2} {A B C : AE} (ho : OpS X T (compareOp op) o) (ho' : OpS X T (compareOp op') o') (ha : SE X T W a A) (hb : SE X T W b B) (hc : SE X T W c C)
    (hm : lastMarks [op, op'] [b, c] = false := by with_unfolding_all rfl) : ST X T W (.Compare a [op, op'] [b, c] pos) (aTB (aChain o o' A B C)) := ptImp (pt_chain ho ho' ha hb hc hm) fun _ _ _ q => chain_of (tb_of q)
def aTAnd (A B : AT) : AT := ⟨fun e h Q R => A.run e h (fun b h1 => if b = true then B.run e h1 Q R else Q false h1) R, fun q f g => A.mono q (fun b _ q1 => by cases b with
  | true => exact B.mono q1 f g
  | false => exact f _ _ q1) g⟩
def aTOr (A B : AT) : AT := ⟨fun e h Q R => A.run e h (fun b h1 => if b = true then Q true h1 else B.run e h1 Q R) R, fun q f g => A.mono q (fun b _ q1 => by cases b with
  | true => exact f _ _ q1
  | false => exact B.mono q1 f g) g⟩
def aTNot (A : AT) : AT := ⟨fun e h Q R => A.run e h (fun b h1 => Q (!b) h1) R, fun q f g => A.mono q (fun b _ q1 => f _ _ q1) g⟩
theorem sw_and1 {A : AT} (ha : ST X T W a A) : SW X T W (.BoolOp .And [a] pos) A := pw_and1 ha
theorem sw_or1 {A : AT} (ha : ST X T W a A) : SW X T W (.BoolOp .Or [a] pos) A := pw_or1 ha
theorem sw_and {A B : AT} {rest : List Expr} (ha : ST X T W a A) (hb : SW X T W (.BoolOp .And (b :: rest) pos) B) : SW X T W (.BoolOp .And (a :: b :: rest) pos) (aTAnd A B) :=
  pwImp (pw_and ha hb) fun σ H Q ⟨w, env, h, e, R, E, q⟩ => ⟨w, env, h, e, R, E, A.mono q (fun k h1 q1 w1 R1 L1 => by
    cases k with
    | true => exact ⟨w1, env, h1, rfl, R1, E.to L1, B.mono q1 (fun b h2 q2 w2 R2 L2 => q2 w2 R2 (L1.trans L2)) fun x h2 q2 => qx_le L1 q2⟩
    | false => exact q1 w1 R1 L1) fun _ _ q1 => q1⟩
theorem sw_or {A B : AT} {rest : List Expr} (ha : ST X T W a A) (hb : SW X T W (.BoolOp .Or (b :: rest) pos) B) : SW X T W (.BoolOp .Or (a :: b :: rest) pos) (aTOr A B) :=
  pwImp (pw_or ha hb) fun σ H Q ⟨w, env, h, e, R, E, q⟩ => ⟨w, env, h, e, R, E, A.mono q (fun k h1 q1 w1 R1 L1 => by
    cases k with
    | true => exact q1 w1 R1 L1
    | false => exact ⟨w1, env, h1, rfl, R1, E.to L1, B.mono q1 (fun b h2 q2 w2 R2 L2 => q2 w2 R2 (L1.trans L2)) fun x h2 q2 => qx_le L1 q2⟩) fun _ _ q1 => q1⟩
theorem st_not {A : AT} (ha : ST X T W a A) : ST X T W (.UnaryOp .Not a pos) (aTNot A) :=
  ptImp (pt_not ha) fun σ H Q ⟨w, env, h, e, R, E, q⟩ => ⟨w, env, h, e, R, E, q⟩
/-- .. as values (bools) -/
def aAnd (A B : AE) : AE := ⟨fun e h Q R => A.run e h (fun x h1 => ∃ b, x = .bl b ∧ if b = true then B.run e h1 Q R else Q (.bl false) h1) R, fun q f g => A.mono q (fun _ _ ⟨b, e1, q1⟩ => ⟨b, e1, by cases b with
  | true => exact B.mono q1 f g
  | false => exact f _ _ q1⟩) g⟩
def aOr (A B : AE) : AE := ⟨fun e h Q R => A.run e h (fun x h1 => ∃ b, x = .bl b ∧ if b = true then Q (.bl true) h1 else B.run e h1 Q R) R, fun q f g => A.mono q (fun _ _ ⟨b, e1, q1⟩ => ⟨b, e1, by cases b with
  | true => exact f _ _ q1
  | false => exact B.mono q1 f g⟩) g⟩
def aNot (A : AE) : AE := ⟨fun e h Q R => A.run e h (fun x h1 => ∃ b, x = .bl b ∧ Q (.bl (!b)) h1) R, fun q f g => A.mono q (fun _ _ ⟨b, e1, q1⟩ => ⟨b, e1, f _ _ q1⟩) g⟩
def aIfE (C : AT) (A B : AE) : AE := ⟨fun e h Q R => C.run e h (fun b h1 => if b = true then A.run e h1 Q R else B.run e h1 Q R) R, fun q f g => C.mono q (fun b _ q1 => by cases b with
  | true => exact A.mono q1 f g
  | false => exact B.mono q1 f g) g⟩
theorem se_one {op : BoolOp} {A : AE} (ha : SE X T W a A) : SE X T W (.BoolOp op [a] pos) A := pe_one ha
theorem se_and {A B : AE} {rest : List Expr} (ha : SE X T W a A) (hb : SE X T W (.BoolOp .And (b :: rest) pos) B) : SE X T W (.BoolOp .And (a :: b :: rest) pos) (aAnd A B) :=
  peImp (pe_and ha hb) fun σ H Q ⟨w, env, h, e, R, E, q⟩ => ⟨w, env, h, e, R, E, A.mono q (fun x h1 ⟨k, e1, q1⟩ w1 v1 R1 L1 r1 => by
    subst e1
    rw [RV] at r1
    refine ⟨k, r1, ?_⟩
    cases k with
    | true => exact ⟨w1, env, h1, rfl, R1, E.to L1, B.mono q1 (fun b h2 q2 w2 v2 R2 L2 r2 => q2 w2 v2 R2 (L1.trans L2) r2) fun x h2 q2 => qx_le L1 q2⟩
    | false => exact q1 w1 _ R1 L1 (by rw [RV])) fun _ _ q1 => q1⟩
theorem se_or {A B : AE} {rest : List Expr} (ha : SE X T W a A) (hb : SE X T W (.BoolOp .Or (b :: rest) pos) B) : SE X T W (.BoolOp .Or (a :: b :: rest) pos) (aOr A B) :=
  peImp (pe_or ha hb) fun σ H Q ⟨w, env, h, e, R, E, q⟩ => ⟨w, env, h, e, R, E, A.mono q (fun x h1 ⟨k, e1, q1⟩ w1 v1 R1 L1 r1 => by
    subst e1
    rw [RV] at r1
    refine ⟨k, r1, ?_⟩
    cases k with
    | true => exact q1 w1 _ R1 L1 (by rw [RV])
    | false => exact ⟨w1, env, h1, rfl, R1, E.to L1, B.mono q1 (fun b h2 q2 w2 v2 R2 L2 r2 => q2 w2 v2 R2 (L1.trans L2) r2) fun x h2 q2 => qx_le L1 q2⟩) fun _ _ q1 => q1⟩
theorem se_not {A : AE} (ha : SE X T W a A) : SE X T W (.UnaryOp .Not a pos) (aNot A) :=
  peImp (pe_not ha) fun σ H Q ⟨w, env, h, e, R, E, q⟩ => ⟨w, env, h, e, R, E, A.mono q (fun x h1 ⟨k, e1, q1⟩ w1 v1 R1 L1 r1 => by
    subst e1
    rw [RV] at r1
    exact ⟨k, r1, q1 w1 _ R1 L1 (by rw [RV])⟩) fun _ _ q1 => q1⟩
theorem se_if {C : AT} {A B : AE} (hc : ST X T W c C) (ha : SE X T W a A) (hb : SE X T W b B) : SE X T W (.IfExp c a b pos) (aIfE C A B) :=
  peImp (pe_ifExp hc ha hb) fun σ H Q ⟨w, env, h, e, R, E, q⟩ => ⟨w, env, h, e, R, E, C.mono q (fun k h1 q1 w1 R1 L1 => by
    cases k with
    | true => exact ⟨w1, env, h1, rfl, R1, E.to L1, A.mono q1 (fun b h2 q2 w2 v2 R2 L2 r2 => q2 w2 v2 R2 (L1.trans L2) r2) fun x h2 q2 => qx_le L1 q2⟩
    | false => exact ⟨w1, env, h1, rfl, R1, E.to L1, B.mono q1 (fun b h2 q2 w2 v2 R2 L2 r2 => q2 w2 v2 R2 (L1.trans L2) r2) fun x h2 q2 => qx_le L1 q2⟩) fun _ _ q1 => q1⟩
end
end PyA
end
section
set_option Elab.async false
set_option linter.all false
set_option maxRecDepth 100000
set_option maxHeartbeats 4000000
/-! PyS2: statements, loops, comprehensions, calls of defs. -/
namespace PyA
open PySem L2
section
variable {X : Cx} {T : NTabs} {W : WX} {e a b c : Expr} {pos : Pos}

/-! ### targets -/
def gNm (i : Nat) : AG := ⟨fun v e h Q => Q (e.set i (some v)) h, fun q f => f _ _ q⟩
theorem slots_refl {S : List Nat} (σ : L2.St) : SlotsBut S σ σ := ⟨rfl, fun _ _ => rfl⟩
theorem slots_trans {S : List Nat} {σ σ1 σ2 : L2.St} (a : SlotsBut S σ σ1) (b : SlotsBut S σ1 σ2) : SlotsBut S σ σ2 := ⟨b.1.trans a.1, fun j hj => (b.2 j hj).trans (a.2 j hj)⟩
theorem slots_set {S : List Nat} {i : Nat} (hi : i ∈ S) (σ : L2.St) (v : Option V) : SlotsBut S σ (σ.set i v) := ⟨List.length_set, fun j hj => List.getElem?_set_ne (fun z => hj (by rw [← z]; exact hi))⟩
theorem sg_name {i : Nat} {x : Str} {S : List Nat} (hN : X.N.Nodup) (hS : i ∈ S) (hi : X.N[i]? = some x := by rfl) (hx : Loc X.env.scope x := by first | exact .inl rfl | exact .inr rfl) (hf : X.fn x = true ∨ X.env.scope.names.lookup x = some .local := by first | exact .inl rfl | exact .inr rfl) : SG X T S (.Name x pos) (gNm i) :=
  pgImp (pg_name hN hi hx hf) fun v σ H Q ⟨w, env, h, x, e, R, E, r, q⟩ => e ▸ q w _ R (Wd.Le.refl w) (E.set i r) (slots_set hS σ _)
/-- targets one after another -/
structure AGs where
  run : List PV → Ev → Hh → (Ev → Hh → Prop) → Prop
  mono : ∀ {v e h Q Q'}, run v e h Q → (∀ e' g, Q e' g → Q' e' g) → run v e h Q'
def gNil : AGs := ⟨fun vs e h Q => vs = [] ∧ Q e h, fun ⟨e, q⟩ f => ⟨e, f _ _ q⟩⟩
def gCons (A : AG) (B : AGs) : AGs := ⟨fun vs e h Q => ∃ v r, vs = v :: r ∧ A.run v e h fun e1 h1 => B.run r e1 h1 Q, fun ⟨v, r, e, q⟩ f => ⟨v, r, e, A.mono q fun _ _ q1 => B.mono q1 f⟩⟩
def gTp (B : AGs) : AG := ⟨fun v e h Q => ∃ xs, v = .tup xs ∧ B.run xs e h Q, fun ⟨xs, e, q⟩ f => ⟨xs, e, B.mono q f⟩⟩
def tGs (K : PySem.W.Frag) (T : NTabs) (S : List Nat) (A : AGs) : TGs := fun vs σ H Q => ∃ (w : Wd) (env : Ev) (h : Hh) (xs : List PV), w.H = H ∧ Rel K T w h ∧ EnvR K w env σ ∧ RVs K w xs vs ∧
  A.run xs env h (fun e' h' => ∀ w' σ', Rel K T w' h' → w.Le w' → EnvR K w' e' σ' → SlotsBut S σ σ' → Q σ' w'.H)
abbrev SGs (X : Cx) (T : NTabs) (S : List Nat) (ts : List Expr) (A : AGs) : Prop := PGs X ts (tGs X.K T S A)
theorem pgsImp {ts : List Expr} {t t' : TGs} (h : PGs X ts t) (i : ∀ v σ H Q, t' v σ H Q → t v σ H Q) : PGs X ts t' := ⟨fun pins s σ H v u Q I r q => h.run pins s σ H v u Q I r (i v σ H Q q)⟩
theorem sgs_nil {S : List Nat} : SGs X T S [] gNil := pgsImp pgs_nil fun vs σ H Q ⟨w, env, h, xs, e, R, E, r, e1, q⟩ => by
  subst e1
  rw [RVs] at r
  exact ⟨r, e ▸ q w σ R (Wd.Le.refl w) E (slots_refl σ)⟩
theorem sgs_cons {S : List Nat} {es : List Expr} {A : AG} {B : AGs} (ha : SG X T S e A) (hb : SGs X T S es B) (hs : (assignEach (e :: es) X.env).map (·.2) = assign e X.env :: (assignEach es X.env).map (·.2) := by rfl) : SGs X T S (e :: es) (gCons A B) :=
  pgsImp (pgs_cons ha hb hs) fun vs σ H Q ⟨w, env, h, xs, e, R, E, r, v, rs, e1, q⟩ => by
    subst e1
    rw [RVs] at r
    obtain ⟨v', r', e2, r1, r2⟩ := r
    exact ⟨v', r', e2, w, env, h, v, e, R, E, r1, A.mono q fun e1 h1 q1 w1 σ1 R1 L1 E1 B1 => ⟨w1, e1, h1, rs, rfl, R1, E1, r2.to L1, B.mono q1 fun e2 h2 q2 w2 σ2 R2 L2 E2 B2 => q2 w2 σ2 R2 (L1.trans L2) E2 (slots_trans B1 B2)⟩⟩
theorem gTup_len {A : AGs} {es : List Expr} {S : List Nat} : True := trivial
/-- (a, b, ..) = a tuple of n -/
def gTpn (n : Nat) (B : AGs) : AG := ⟨fun v e h Q => ∃ xs, v = .tup xs ∧ xs.length = n ∧ B.run xs e h Q, fun ⟨xs, e, l, q⟩ f => ⟨xs, e, l, B.mono q f⟩⟩
theorem sg_tup {S : List Nat} {es : List Expr} {k n : Nat} {B : AGs} (hc : X.calm = true) (hb : SGs X T S es B) (hn : (assignEach es X.env).length = n := by rfl) (hst : (assignEach es X.env).findIdx? (·.1) = none := by rfl) : SG X T S (.Tuple es k pos) (gTpn n B) :=
  pgImp (pg_tup hc hb hn hst) fun v σ H Q ⟨w, env, h, x, e, R, E, r, xs, e1, l, q⟩ => by
    subst e1
    rw [RV] at r
    obtain ⟨a, vs, e2, ht, r⟩ := r
    exact ⟨a, vs, e2, e ▸ ht.sq, by rw [← r.length]; exact l, w, env, h, xs, e, R, E, r, q⟩
/-- o[i] = v, by values -/
structure AO3 where
  run : PV → PV → PV → Hh → (Hh → Prop) → Prop
  mono : ∀ {x y z h Q Q'}, run x y z h Q → (∀ g, Q g → Q' g) → run x y z h Q'
def tO3 (K : PySem.W.Frag) (T : NTabs) (o : AO3) : TSet := fun v u z H Q => ∃ (w : Wd) (h : Hh) (x y zz : PV), w.H = H ∧ Rel K T w h ∧ RV K w x v ∧ RV K w y u ∧ RV K w zz z ∧
  o.run x y zz h (fun h' => ∀ w', Rel K T w' h' → w.Le w' → Q w'.H)
abbrev SetS (X : Cx) (T : NTabs) (o : AO3) : Prop := PSet X (tO3 X.K T o)

/-! ### statements -/
def sSkip : AS := ⟨fun D e h => D.nx e h, fun q l => l.nx _ _ q⟩
def sSeq (A B : AS) : AS := ⟨fun D e h => A.run { D with nx := fun e' h' => B.run D e' h' } e h, fun q l => A.mono q (l.nxd fun _ _ q1 => B.mono q1 l)⟩
theorem ss_of {A : AS} {D : Ends} {w w1 : Wd} {env : Ev} {h : Hh} {σ : L2.St} (l : w.Le w1) (R : Rel X.K T w1 h) (E : EnvR X.K w1 env σ) (q : A.run (low X.K T W w D) env h) : tS X.K T W A D σ w1.H :=
  ⟨w1, env, h, rfl, R, E, A.mono q (low_le l D)⟩
theorem sss_nil : SSs X T W [] sSkip := pssImp pss_nil fun D σ H ⟨w, env, h, e, R, E, q⟩ => e ▸ q w σ R (Wd.Le.refl w) E
theorem sss_cons {st : Stmt} {rest : List Stmt} {A B : AS} (ha : SS X T W st A) (hb : SSs X T W rest B) : SSs X T W (st :: rest) (sSeq A B) :=
  pssImp (pss_cons ha hb) fun D σ H ⟨w, env, h, e, R, E, q⟩ => ⟨w, env, h, e, R, E, A.mono q ⟨fun e' h' q1 w1 σ1 R1 L1 E1 => ss_of L1 R1 E1 q1, fun _ _ q => q, fun _ _ q => q, fun _ _ q => q, fun _ _ _ q => q⟩⟩
theorem sss_one {st : Stmt} {A : AS} (ha : SS X T W st A) : SSs X T W [st] A := pss_one ha
theorem ss_pass : SS X T W (.Pass pos) sSkip := psImp ps_pass fun D σ H ⟨w, env, h, e, R, E, q⟩ => e ▸ q w σ R (Wd.Le.refl w) E
def sBrk : AS := ⟨fun D e h => D.bk e h, fun q l => l.bk _ _ q⟩
def sCnt : AS := ⟨fun D e h => D.ct e h, fun q l => l.ct _ _ q⟩
theorem ss_break : SS X T W (.Break pos) sBrk := psImp ps_break fun D σ H ⟨w, env, h, e, R, E, q⟩ => e ▸ q w σ R (Wd.Le.refl w) E
theorem ss_continue : SS X T W (.Continue pos) sCnt := psImp ps_continue fun D σ H ⟨w, env, h, e, R, E, q⟩ => e ▸ q w σ R (Wd.Le.refl w) E
def sExp (A : AE) : AS := ⟨fun D e h => A.run e h (fun _ h' => D.nx e h') (fun x h' => D.ex x e h'), fun q l => A.mono q (fun _ _ q1 => l.nx _ _ q1) fun _ _ q1 => l.ex _ _ _ q1⟩
def sRet (A : AE) : AS := ⟨fun D e h => A.run e h (fun v h' => D.rt v h') (fun x h' => D.ex x e h'), fun q l => A.mono q (fun _ _ q1 => l.rt _ _ q1) fun _ _ q1 => l.ex _ _ _ q1⟩
def sAsg (A : AE) (g : AG) : AS := ⟨fun D e h => A.run e h (fun v h' => g.run v e h' D.nx) (fun x h' => D.ex x e h'), fun q l => A.mono q (fun _ _ q1 => g.mono q1 fun _ _ q2 => l.nx _ _ q2) fun _ _ q1 => l.ex _ _ _ q1⟩
def sIf (C : AT) (A B : AS) : AS := ⟨fun D e h => C.run e h (fun b h' => if b = true then A.run D e h' else B.run D e h') (fun x h' => D.ex x e h'), fun q l => C.mono q (fun b _ q1 => by
  cases b with
  | true => exact A.mono q1 l
  | false => exact B.mono q1 l) fun _ _ q1 => l.ex _ _ _ q1⟩
theorem ex_qx {D : Ends} {w : Wd} {env : Ev} {σ : L2.St} (E : EnvR X.K w env σ) {x : Exn} {h : Hh} (q : (low X.K T W w D).ex x env h) : qx X.K T W w σ x h := fun w' cls d R L r => q w' σ cls d R L (E.to L) r
theorem ss_expr {A : AE} (ha : SE X T W e A) (hs : swapsWith e none pos.line X.env = pure false := by rfl) : SS X T W (.Expr e pos) (sExp A) :=
  psImp (ps_expr ha hs) fun D σ H ⟨w, env, h, e, R, E, q⟩ => ⟨w, env, h, e, R, E, A.mono q (fun x h1 q1 w1 v1 R1 L1 r1 => q1 w1 σ R1 L1 (E.to L1)) fun x h1 q1 => ex_qx E q1⟩
theorem ss_ret {A : AE} (ha : SE X T W e A) : SS X T W (.Return (some e) pos) (sRet A) :=
  psImp (ps_ret ha) fun D σ H ⟨w, env, h, e, R, E, q⟩ => ⟨w, env, h, e, R, E, A.mono q (fun x h1 q1 w1 v1 R1 L1 r1 => q1 w1 v1 R1 L1 r1) fun x h1 q1 => ex_qx E q1⟩
theorem asg_of {A : AE} {g : AG} {S : List Nat} {D : Ends} {σ : L2.St} {H : Hp} (q : tS X.K T W (sAsg A g) D σ H) : tAsg (tE X.K T W A) (tG X.K T S g) D σ H := by
  obtain ⟨w, env, h, e, R, E, q⟩ := q
  exact ⟨w, env, h, e, R, E, A.mono q (fun x h1 q1 w1 v1 R1 L1 r1 => ⟨w1, env, h1, x, rfl, R1, E.to L1, r1, g.mono q1 fun e2 h2 q2 w2 σ2 R2 L2 E2 _ => q2 w2 σ2 R2 (L1.trans L2) E2⟩) fun x h1 q1 => ex_qx E q1⟩
theorem ss_set {i : Nat} {x : Str} {p : Pos} {A : AE} (ha : SE X T W e A) (hN : X.N.Nodup) (hi : X.N[i]? = some x := by rfl) (hx : Loc X.env.scope x := by first | exact .inl rfl | exact .inr rfl) (hs : swapsWith e (some (.Name x p)) pos.line X.env = pure false := by rfl)
    (hf : X.fn x = true ∨ X.env.scope.names.lookup x = some .local := by first | exact .inl rfl | exact .inr rfl) : SS X T W (.Assign [.Name x p] e pos) (sAsg A (gNm i)) :=
  psImp (ps_set hN hi hx ha hs hf) fun D σ H ⟨w, env, h, e, R, E, q⟩ => ⟨w, env, h, e, R, E, A.mono q (fun x h1 q1 w1 v1 R1 L1 r1 => q1 w1 _ R1 L1 ((E.to L1).set i r1)) fun x h1 q1 => ex_qx E q1⟩
theorem ss_asg {S : List Nat} {tg : Expr} {A : AE} {g : AG} (ha : SE X T W e A) (hg : SG X T S tg g) (hs : swapsWithSole [tg] e pos.line X.env = pure false := by rfl) (hw : swappedStores [tg] e X.env = pure none := by rfl)
    (h1 : (assignEach [tg] X.env).map (·.2) = [assign tg X.env] := by rfl) : SS X T W (.Assign [tg] e pos) (sAsg A g) := psImp (ps_asg ha hg hs hw h1) fun D σ H q => asg_of q
/-- a, b = x, y (both sides written, plain local names): no tuple is kept -/
def sPar (i j : Nat) (A : AA) : AS := ⟨fun D e h => A.run e h (fun vs h' => ∃ v u, vs = [v, u] ∧ D.nx ((e.set i (some v)).set j (some u)) h') (fun x h' => D.ex x e h'), fun q l => A.mono q (fun _ _ ⟨v, u, e1, q1⟩ => ⟨v, u, e1, l.nx _ _ q1⟩) fun _ _ q1 => l.ex _ _ _ q1⟩
theorem ss_par {i j : Nat} {x y : Str} {A : AA} {px py pt : Pos} {kt k2 pt2} (hc : X.calm = true) (hN : X.N.Nodup) (hij : i ≠ j) (ha : SA X T W [a, b] A) (hi : X.N[i]? = some x := by rfl) (hj : X.N[j]? = some y := by rfl)
    (hx : X.env.scope.names.lookup x = some .local := by rfl) (hy : X.env.scope.names.lookup y = some .local := by rfl)
    (hw : swappedStores [.Tuple [.Name x px, .Name y py] kt pt] (.Tuple [a, b] k2 pt2) X.env = pure (some [x, y]) := by rfl)
    (hs : swapsWithSole [.Tuple [.Name x px, .Name y py] kt pt] (.Tuple [a, b] k2 pt2) pos.line X.env = pure false := by rfl) :
    SS X T W (.Assign [.Tuple [.Name x px, .Name y py] kt pt] (.Tuple [a, b] k2 pt2) pos) (sPar i j A) :=
  psImp (ps_par hc hN hi hj hij hx hy ha hw hs) fun D σ H ⟨w, env, h, e, R, E, q⟩ => ⟨w, env, h, e, R, E, A.mono q (fun xs h1 ⟨v, u, e1, q1⟩ w1 vs R1 L1 r1 => by
    subst e1
    rw [RVs] at r1
    obtain ⟨v', r', e2, rv, r2⟩ := r1
    rw [RVs] at r2
    obtain ⟨u', r3, e3, ru, r4⟩ := r2
    rw [RVs] at r4
    subst r4 e3
    exact ⟨v', u', e2, q1 w1 _ R1 L1 (((E.to L1).set i rv).set j ru)⟩) fun x h1 q1 => ex_qx E q1⟩
theorem ss_if {C : AT} {A B : AS} {x y : List Stmt} (hc : ST X T W c C) (ha : SSs X T W x A) (hb : SSs X T W y B) : SS X T W (.If c x y pos) (sIf C A B) :=
  psImp (ps_if hc ha hb) fun D σ H ⟨w, env, h, e, R, E, q⟩ => ⟨w, env, h, e, R, E, C.mono q (fun k h1 q1 w1 R1 L1 => by
    cases k with
    | true => exact ss_of L1 R1 (E.to L1) q1
    | false => exact ss_of L1 R1 (E.to L1) q1) fun x h1 q1 => ex_qx E q1⟩

/-! ### while -/
def whileN (C : AT) (B : AS) (D : AD) : Nat → Ev → Hh → Prop
  | 0, _, _ => False
  | n + 1, e, h => C.run e h (fun b h1 => if b = true then B.run { D with nx := whileN C B D n, ct := whileN C B D n, bk := D.nx } e h1 else D.nx e h1) (fun x h' => D.ex x e h')
theorem whileN_mono {C : AT} {B : AS} {D D' : AD} (l : D.Le D') : ∀ (n : Nat) (e : Ev) (h : Hh), whileN C B D n e h → whileN C B D' n e h
  | 0, _, _, q => q
  | n + 1, e, h, q => C.mono q (fun b h1 q1 => by
      cases b with
      | true => exact B.mono q1 ⟨whileN_mono l n, l.rt, l.nx, whileN_mono l n, l.ex⟩
      | false => exact l.nx _ _ q1) fun _ _ q1 => l.ex _ _ _ q1
def sWhile (C : AT) (B : AS) : AS := ⟨fun D e h => ∃ n, whileN C B D n e h, fun ⟨n, q⟩ l => ⟨n, whileN_mono l n _ _ q⟩⟩
theorem ss_while {C : AT} {B : AS} {body : List Stmt} (hp : PassesOwn (model X.prog X.w) X.A X.env X.xe) (hc : ST X T W c C) (hb : SSs X T W body B) : SS X T W (.While c body [] pos) (sWhile C B) :=
  psImp (ps_while hp hc hb) fun D σ H ⟨w, env, h, e, R, E, n, q⟩ => by
    refine ⟨fun m σ H => ∃ w1 env h, w1.H = H ∧ w.Le w1 ∧ Rel X.K T w1 h ∧ EnvR X.K w1 env σ ∧ whileN C B (low X.K T W w D) m env h, ⟨n, w, env, h, e, Wd.Le.refl w, R, E, q⟩, ?_⟩
    rintro m σ1 H1 ⟨w1, env1, h1, e1, L1, R1, E1, q1⟩
    subst e1
    cases m with
    | zero => exact q1.elim
    | succ m =>
      refine ⟨w1, env1, h1, rfl, R1, E1, C.mono q1 (fun k h2 q2 w2 R2 L2 => ?_) fun x h2 q2 => ex_qx (D := D) E1 (fun w' σ' cls d R' L' E' r' => q2 w' σ' cls d R' (L1.trans L') E' r')⟩
      cases k with
      | false => exact q2 w2 σ1 R2 (L1.trans L2) (E1.to L2)
      | true =>
        refine ⟨fun σ' H' => ∃ w' e' h', w'.H = H' ∧ w.Le w' ∧ Rel X.K T w' h' ∧ EnvR X.K w' e' σ' ∧ whileN C B (low X.K T W w D) m e' h', fun σ' H' z => ⟨m, Nat.lt_succ_self m, z⟩, ?_⟩
        rw [if_pos rfl] at q2
        refine ⟨w2, env1, h2, rfl, R2, E1.to L2, B.mono q2 ?_⟩
        refine ⟨?_, ?_, ?_, ?_, ?_⟩
        · exact fun e' h' q' w' σ' R' L' E' => ⟨w', e', h', rfl, L1.trans (L2.trans L'), R', E', q'⟩
        · exact fun x h' q' w' v R' L' r' => q' w' v R' (L1.trans (L2.trans L')) r'
        · exact fun e' h' q' w' σ' R' L' E' => q' w' σ' R' (L1.trans (L2.trans L')) E'
        · exact fun e' h' q' w' σ' R' L' E' => ⟨w', e', h', rfl, L1.trans (L2.trans L'), R', E', q'⟩
        · exact fun x e' h' q' w' σ' cls d R' L' E' r' => q' w' σ' cls d R' (L1.trans (L2.trans L')) E' r'

/-! ### for -/
def loopF (g : AG) (B : AS) (ok : Hh → Prop) (D : AD) : List PV → Ev → Hh → Prop
  | [], e, h => ok h ∧ D.nx e h
  | v :: vs, e, h => ok h ∧ g.run v e h fun e2 h2 => B.run { D with nx := loopF g B ok D vs, ct := loopF g B ok D vs, bk := D.nx } e2 h2
theorem loopF_mono {g : AG} {B : AS} {ok : Hh → Prop} {D D' : AD} (l : D.Le D') : ∀ (vs : List PV) (e : Ev) (h : Hh), loopF g B ok D vs e h → loopF g B ok D' vs e h
  | [], _, _, ⟨o, q⟩ => ⟨o, l.nx _ _ q⟩
  | v :: vs, e, h, ⟨o, q⟩ => ⟨o, g.mono q fun e2 h2 q2 => B.mono q2 ⟨loopF_mono l vs, l.rt, l.nx, loopF_mono l vs, l.ex⟩⟩
def sFor (it : AI) (g : AG) (B : AS) : AS := ⟨fun D e h => it.run e h (fun J h1 => loopF g B J.ok D J.items e h1) (fun x h' => D.ex x e h'), fun q l => it.mono q (fun J h1 q1 => loopF_mono l _ _ _ q1) fun _ _ q1 => l.ex _ _ _ q1⟩
theorem ss_for {S : List Nat} {tg iter : Expr} {body : List Stmt} {it : AI} {g : AG} {B : AS} (hp : PassesOwn (model X.prog X.w) X.A X.env X.xe) (hc : X.calm = true) (hi : SI X T W tg iter it) (hg : SG X T S tg g) (hb : SSs X T W body B)
    (hs : ∀ x, foldedSetIterable iter X.env x = pure x := by intro _; rfl) : SS X T W (.For tg iter body [] pos) (sFor it g B) :=
  psImp (ps_for hp hc hi hg hb hs) fun D σ H ⟨w, env, h, e, R, E, q⟩ => by
    refine ⟨w, env, h, e, R, E, it.mono q (fun J h1 q1 w1 JJ R1 L1 F => ?_) fun x h1 q1 => ex_qx E q1⟩
    refine ⟨fun i m σ H => ∃ w2 env h, w2.H = H ∧ w1.Le w2 ∧ Rel X.K T w2 h ∧ EnvR X.K w2 env σ ∧ m + i = J.items.length ∧ loopF g B J.ok (low X.K T W w D) (J.items.drop i) env h, ⟨J.items.length, w1, env, h1, rfl, Wd.Le.refl w1, R1, E.to L1, by simp, by simpa using q1⟩, ?_⟩
    rintro i m σ2 H2 ⟨w2, env2, h2, e2, L2, R2, E2, hm, q2⟩
    subst e2
    have hok : J.ok h2 := by
      cases hd : J.items.drop i with
      | nil => rw [hd] at q2; exact q2.1
      | cons v vs => rw [hd] at q2; exact q2.1
    obtain ⟨stop, item⟩ := F i w2 h2 L2 R2 hok
    cases m with
    | zero =>
      have ei : i = J.items.length := by omega
      refine .inl ⟨stop ei, ?_⟩
      rw [ei, List.drop_length] at q2
      exact q2.2 w2 σ2 R2 (L1.trans L2) E2
    | succ m =>
      have hi : i < J.items.length := by omega
      obtain ⟨go, yl⟩ := item J.items[i] (by simp [hi])
      refine .inr ⟨go, ?_⟩
      rw [List.drop_eq_getElem_cons hi] at q2
      refine ⟨fun σ' H' => ∃ w' e' h', w'.H = H' ∧ w1.Le w' ∧ Rel X.K T w' h' ∧ EnvR X.K w' e' σ' ∧ m + (i + 1) = J.items.length ∧ loopF g B J.ok (low X.K T W w D) (J.items.drop (i + 1)) e' h', fun σ' H' z => ⟨m, Nat.lt_succ_self m, z⟩, fun v H' y => ?_⟩
      obtain ⟨w3, e3, R3, L3, r3⟩ := yl v H' y
      refine ⟨w3, env2, h2, _, e3, R3, E2.to L3, r3, g.mono q2.2 fun e4 h4 q4 w4 σ4 R4 L4 E4 _ => ?_⟩
      have LL : w.Le w4 := L1.trans (L2.trans (L3.trans L4))
      have LM : w1.Le w4 := L2.trans (L3.trans L4)
      refine ⟨w4, e4, h4, rfl, R4, E4, B.mono q4 ⟨fun e' h' q' w' σ' R' L' E' => ⟨w', e', h', rfl, LM.trans L', R', E', by omega, q'⟩, fun x h' q' w' v R' L' r' => q' w' v R' (LL.trans L') r', fun e' h' q' w' σ' R' L' E' => q' w' σ' R' (LL.trans L') E', fun e' h' q' w' σ' R' L' E' => ⟨w', e', h', rfl, LM.trans L', R', E', by omega, q'⟩, fun x e' h' q' w' σ' cls d R' L' E' r' => q' w' σ' cls d R' (LL.trans L') E' r'⟩⟩

/-! ### list comprehensions -/
def wipeE (e : Ev) : List Nat → Ev
  | [] => e
  | v :: vs => (wipeE e vs).set v none
def compL (g : AG) (C : AT) (A : AE) (ok : Hh → Prop) (e : Ev) (D : Nat) (Q : QV) : List PV → Hh → Prop
  | [], h => ok h ∧ Q (.loc D) h
  | v :: vs, h => ok h ∧ g.run v e h fun e2 h2 => C.run e2 h2 (fun b h3 => if b = true then A.run e2 h3 (fun y h4 => ∃ acc, h4[D]? = some (.lst acc) ∧ acc.length < sizeLine ∧ compL g C A ok e D Q vs (h4.set D (.lst (acc ++ [y])))) (fun _ _ => False) else compL g C A ok e D Q vs h3) (fun _ _ => False)
theorem compL_mono {g : AG} {C : AT} {A : AE} {ok : Hh → Prop} {e : Ev} {D : Nat} {Q Q' : QV} (f : ∀ v h, Q v h → Q' v h) : ∀ (vs : List PV) (h : Hh), compL g C A ok e D Q vs h → compL g C A ok e D Q' vs h
  | [], h, ⟨o, q⟩ => ⟨o, f _ _ q⟩
  | v :: vs, h, ⟨o, q⟩ => ⟨o, g.mono q fun e2 h2 q2 => C.mono q2 (fun b h3 q3 => by
      cases b with
      | true => exact A.mono q3 (fun y h4 ⟨acc, a1, a2, q4⟩ => ⟨acc, a1, a2, compL_mono f vs _ q4⟩) fun _ _ z => z
      | false => exact compL_mono f vs _ q3) fun _ _ z => z⟩
def aLc (it : AI) (g : AG) (C : AT) (A : AE) (own : List Nat) : AE := ⟨fun e h Q R => it.run e h (fun J h1 => compL g C A J.ok (wipeE e own) h1.length Q J.items (h1 ++ [.lst []])) R, fun q f k => it.mono q (fun J h1 q1 => compL_mono f _ _ q1) k⟩
theorem wipe_same {σ σ' : L2.St} : ∀ {vs : List Nat}, SlotsBut vs σ σ' → wipe σ' vs = wipe σ vs := by
  intro vs B
  apply List.ext_getElem?
  intro j
  have key : ∀ (τ : L2.St) (vs : List Nat), (wipe τ vs)[j]? = if j ∈ vs then (if j < τ.length then some none else none) else τ[j]? := by
    intro τ vs
    induction vs with
    | nil => simp [wipe]
    | cons v vs ih =>
      unfold wipe
      by_cases hv : v = j
      · subst hv
        rw [if_pos List.mem_cons_self]
        by_cases hl : v < τ.length
        · rw [if_pos hl, List.getElem?_set_self (by rw [wipe_length]; exact hl)]
        · rw [if_neg hl, List.getElem?_eq_none (by rw [List.length_set, wipe_length]; omega)]
      · rw [List.getElem?_set_ne hv, ih]
        by_cases hm : j ∈ vs
        · rw [if_pos hm, if_pos (List.mem_cons_of_mem _ hm)]
        · rw [if_neg hm, if_neg (by simp only [List.mem_cons, not_or]; exact ⟨fun z => hv z.symm, hm⟩)]
  rw [key, key, B.1]
  by_cases hm : j ∈ vs
  · rw [if_pos hm, if_pos hm]
  · rw [if_neg hm, if_neg hm, B.2 j hm]
theorem slots_wipe (σ : L2.St) : ∀ vs : List Nat, SlotsBut vs σ (wipe σ vs)
  | [] => slots_refl σ
  | v :: vs => by
    obtain ⟨h1, h2⟩ := slots_wipe σ vs
    refine ⟨by unfold wipe; rw [List.length_set]; exact h1, fun j hj => ?_⟩
    simp only [List.mem_cons, not_or] at hj
    unfold wipe
    rw [List.getElem?_set_ne (fun z => hj.1 z.symm)]
    exact h2 j hj.2
theorem EnvR.wipe {K : PySem.W.Frag} {w : Wd} {env : Ev} {σ : L2.St} (E : EnvR K w env σ) : ∀ vs : List Nat, EnvR K w (wipeE env vs) (L2.wipe σ vs)
  | [] => E
  | v :: vs => by
    have ih := EnvR.wipe E vs
    refine ⟨by unfold wipeE L2.wipe; rw [List.length_set, List.length_set]; exact ih.1, fun j x e => ?_⟩
    unfold wipeE at e
    unfold L2.wipe
    by_cases q : v = j
    · subst q
      by_cases hl : v < (wipeE env vs).length
      · rw [List.getElem?_set_self hl] at e
        cases e
      · rw [List.getElem?_eq_none (by rw [List.length_set]; omega)] at e
        cases e
    · rw [List.getElem?_set_ne q] at e
      rw [List.getElem?_set_ne q]
      exact ih.2 j x e
def stsT (K : PySem.W.Frag) (T : NTabs) (C : AT) : TT := tT K T (fun _ _ _ _ => False) C
abbrev STs (X : Cx) (T : NTabs) (W : WX) (ifs : List Expr) (C : AT) : Prop := PTs X ifs (tT X.K T W C)
def tYs : AT := ⟨fun _ h Q _ => Q true h, fun q f _ => f _ _ q⟩
theorem sts_nil : STs X T W [] tYs := ⟨fun pins s σ H Q I q => (pts_nil (X := X)).run pins s σ H Q I (by obtain ⟨w, env, h, e, R, E, q⟩ := q; exact e ▸ q w R (Wd.Le.refl w))⟩
theorem sts_one {C : AT} (h : ST X T W c C) : STs X T W [c] C := pts_one h
abbrev WN : WX := fun _ _ _ _ => False
theorem lc_sound {wi : AI} {g : AG} {C : AT} {A : AE} {own : List Nat} {σ : L2.St} {H : Hp} {Q : VK} (q : tE X.K T W (aLc wi g C A own) σ H Q) :
    tLc (tI X.K T W wi) (tG X.K T own g) (tT X.K T WN C) (tE X.K T WN A) own σ H Q := by
  obtain ⟨w, env, h, e, R, E, q⟩ := q
  refine ⟨w, env, h, e, R, E, wi.mono q (fun J h1 q1 w1 JJ R1 L1 F D hD => ?_) fun _ _ q1 => q1⟩
  obtain ⟨R0, L0, r0⟩ := newLst (T := T) R1 hD (RVs.nil (K := X.K) (w := w1))
  have hl1 : w1.n = h1.length := R1.len
  refine ⟨fun i m H => ∃ w2 h2, w2.H = H ∧ w1.Le w2 ∧ Rel X.K T w2 h2 ∧ (w2.m h1.length = D ∧ h1.length < w2.n) ∧ m + i = J.items.length ∧
    compL g C A J.ok (wipeE env own) h1.length (fun x h' => ∀ w' v, Rel X.K T w' h' → w.Le w' → RV X.K w' x v → Q v w'.H) (J.items.drop i) h2,
    ⟨J.items.length, _, _, rfl, L0, R0, ?_, by simp, by simpa using q1⟩, ?_⟩
  · rw [RV] at r0
    exact ⟨(V.ref.inj r0.2).symm, r0.1⟩
  rintro i m H2 ⟨w2, h2, e2, L2', R2, ⟨hD2, hn2⟩, hm, q2⟩
  subst e2
  have hok : J.ok h2 := by
    cases hd : J.items.drop i with
    | nil => rw [hd] at q2; exact q2.1
    | cons v vs => rw [hd] at q2; exact q2.1
  obtain ⟨stop, item⟩ := F i w2 h2 L2' R2 hok
  cases m with
  | zero =>
    have ei : i = J.items.length := by omega
    refine .inl ⟨stop ei, ?_⟩
    rw [ei, List.drop_length] at q2
    exact q2.2 w2 (.ref D) R2 (L1.trans L2') (by rw [RV]; exact ⟨hn2, by rw [hD2]⟩)
  | succ m =>
    have hi : i < J.items.length := by omega
    obtain ⟨go, yl⟩ := item J.items[i] (by simp [hi])
    refine .inr ⟨go, ?_⟩
    rw [List.drop_eq_getElem_cons hi] at q2
    refine ⟨fun H' => ∃ w' h', w'.H = H' ∧ w1.Le w' ∧ Rel X.K T w' h' ∧ (w'.m h1.length = D ∧ h1.length < w'.n) ∧ m + (i + 1) = J.items.length ∧ compL g C A J.ok (wipeE env own) h1.length (fun x h' => ∀ w' v, Rel X.K T w' h' → w.Le w' → RV X.K w' x v → Q v w'.H) (J.items.drop (i + 1)) h',
      fun H' z => ⟨m, Nat.lt_succ_self m, z⟩, fun v H' y => ?_⟩
    obtain ⟨w3, e3, R3, L3, r3⟩ := yl v H' y
    have E3 : EnvR X.K w3 (wipeE env own) (L2.wipe σ own) := EnvR.wipe (E.to (L1.trans (L2'.trans L3))) own
    refine ⟨w3, wipeE env own, h2, _, e3, R3, E3, r3, g.mono q2.2 fun e4 h4 q4 w4 σ4 R4 L4 E4 B4 => ⟨?_, w4, e4, h4, rfl, R4, E4, C.mono q4 (fun k h5 q5 w5 R5 L5 => ?_) fun _ _ z => z.elim⟩⟩
    · exact wipe_same (slots_trans (slots_wipe σ own) B4)
    · cases k with
      | false => exact ⟨w5, h5, rfl, L2'.trans (L3.trans (L4.trans L5)), R5, ⟨by rw [(L3.trans (L4.trans L5)).m _ hn2]; exact hD2, Nat.lt_of_lt_of_le hn2 (L3.trans (L4.trans L5)).n⟩, by omega, q5⟩
      | true =>
        refine ⟨w5, e4, h5, rfl, R5, E4.to L5, A.mono q5 (fun yv h6 ⟨acc, a1, a2, q6⟩ w6 v6 R6 L6 r6 => ?_) fun _ _ z => z.elim⟩
        have LD : w2.Le w6 := L3.trans (L4.trans (L5.trans L6))
        have hm6 : w6.m h1.length = D := by rw [LD.m _ hn2]; exact hD2
        have hn6 : h1.length < w6.n := Nat.lt_of_lt_of_le hn2 LD.n
        obtain ⟨vs6, b1, b2⟩ := R6.cell _ _ a1
        rw [hm6] at b1
        refine ⟨vs6, b1, by rw [← b2.length]; exact a2, ?_⟩
        have nf6 : ∀ od u, w6.H (w6.m h1.length) ≠ some (.frz od u) := fun od u z => by rw [hm6, b1] at z; cases z
        have P := R6.put (i := h1.length) (o := .lst (vs6 ++ [v6])) hn6 nf6 (c := .lst (acc ++ [yv])) ⟨vs6 ++ [v6], upd_same, (RVs.append b2 (RVs.cons r6 RVs.nil)).to (R6.le_put hn6 nf6)⟩
        have LP := R6.le_put (i := h1.length) (o := .lst (vs6 ++ [v6])) hn6 nf6
        exact ⟨_, _, by show upd w6.H (w6.m h1.length) _ = _; rw [hm6], L2'.trans (LD.trans LP), P, ⟨hm6, hn6⟩, by omega, q6⟩
end
end PyA
end
section
set_option Elab.async false
set_option linter.all false
set_option maxRecDepth 100000
set_option maxHeartbeats 4000000
/-! PyS3: defs, calls, comprehensions, walks. -/
namespace PyA
open PySem L2 PySem.Spec PyProof.Rows

/-! ### a def -/
def spA (K : PySem.W.Frag) (T : NTabs) (A : AF) : Sp := fun vs H Q E => ∃ (w : Wd) (h : Hh) (xs : List PV), w.H = H ∧ Rel K T w h ∧ RVs K w xs vs ∧
  A.run xs h (fun x h' => ∀ w' v, Rel K T w' h' → w.Le w' → RV K w' x v → Q v w'.H) (fun x h' => ∀ w' cls d, Rel K T w' h' → w.Le w' → ExR K w' x cls d → E cls d w'.H)
/-- n slots, the body B -/
def mkF (np n : Nat) (B : AS) : AF := ⟨np, fun xs h Q R => xs.length = np ∧ B.run { nx := fun _ h' => Q .non h', rt := Q, bk := fun _ _ => False, ct := fun _ _ => False, ex := fun x _ h' => R x h' } (xs.map some ++ List.replicate (n - xs.length) none) h,
  fun ⟨l, q⟩ f g => ⟨l, B.mono q ⟨fun _ _ q => f _ _ q, fun _ _ q => f _ _ q, fun _ _ q => q, fun _ _ q => q, fun _ _ _ q => g _ _ q⟩⟩, fun q => q.1⟩
theorem spA_len {K : PySem.W.Frag} {T : NTabs} {A : AF} {vs : List V} {H : Hp} {Q : VK} {E : XK} (h : spA K T A vs H Q E) : vs.length = A.n := by
  obtain ⟨w, g, xs, _, _, r, q⟩ := h
  rw [← r.length]
  exact A.len q
abbrev FnA (P : Program) (w : World) (K : PySem.W.Frag) (mg : Str → Option Value) (base : Heap) (T : NTabs) (k : Nat) (f : Addr) (fd : FuncData) (ps : List Str) (A : AF) : Prop := FnOk P w K mg base (L2.CX P w) k f fd ps (spA K T A)
theorem EnvR.start {K : PySem.W.Frag} {w : Wd} {xs : List PV} {vs : List V} (r : RVs K w xs vs) {n : Nat} {N : List Str} (hN : N.length = n) (hl : xs.length ≤ n) : EnvR K w (xs.map some ++ List.replicate (n - xs.length) none) (L2.start N vs) := by
  have e := r.length
  unfold L2.start
  refine ⟨by simp [e, hN], fun i x hx => ?_⟩
  by_cases h : i < xs.length
  · rw [List.getElem?_append_left (by simpa using h), List.getElem?_map] at hx
    cases q : xs[i]? with
    | none => rw [q] at hx; cases hx
    | some y =>
      rw [q] at hx
      cases hx
      obtain ⟨v, h1, h2⟩ := r.get q
      refine ⟨v, ?_, h2⟩
      rw [List.getElem?_append_left (by rw [List.length_map, ← e]; exact h), List.getElem?_map, h1]
      rfl
  · rw [List.getElem?_append_right (by simpa using Nat.le_of_not_lt h), List.getElem?_replicate] at hx
    split at hx <;> cases hx
section
variable {P : Program} {w : World} {K : PySem.W.Frag} {mg : Str → Option Value} {base : Heap} {T : NTabs} {x qual : Str} {params : Arguments} {body : List Stmt} {scope : Scope} {dvs : List V} {kws : List (Str × V)} {f : Addr} {fd : FuncData}
/-- a def by its body -/
theorem fn_sound {N ps : List Str} {np n k : Nat} {B : AS} (F : FunD K x qual params body scope dvs kws f fd) (S : FnScope N ps scope) (hn : N.length = n) (hp : ps.length = np) (hnp : np ≤ n)
    (hb : ∀ (cdv : Value) (A : Around) (outer : List Env) (s : Shared) (H : Hp) (E : XK) (W : WX), Room k (A.deeper (envOfC qual scope s.heap.objs.size f cdv)) → Takes (cxOf (L2.CX P w) P w K mg base N qual scope f cdv A outer s H E) W →
      SSs (cxOf (L2.CX P w) P w K mg base N qual scope f cdv A outer s H E) T W body B) : FnA P w K mg base T (k + 1) f fd ps (mkF np n B) := by
  refine F.ok S (fun vs H Q E h => (spA_len h).trans hp.symm) fun cdv A outer s H vs Q E hr ⟨w1, h, xs, e, R, r, hx, q⟩ => ?_
  refine ⟨_, hb cdv A outer s H E (fun cls d _ H => E cls d H) hr (takes_of rfl rfl rfl rfl), w1, _, h, e, R, EnvR.start r hn (hx ▸ hnp), B.mono q ?_⟩
  refine ⟨fun _ h' q w' σ' R' L' E' => q w' .non R' L' (by rw [RV]), fun x h' q w' v R' L' r' => q w' v R' L' r', fun _ _ q => q.elim, fun _ _ q => q.elim, fun x e' h' q w' σ' cls d R' L' E' r' => q w' cls d R' L' r'⟩
end
/-- what a caller needs of a def that stands in the module -/
structure Cal (P : Program) (w : World) (K : PySem.W.Frag) (mg : Str → Option Value) (base : Heap) (T : NTabs) (x : Str) (k : Nat) (ps : List Str) (A : AF) : Prop where
  ex : ∃ fd, FnA P w K mg base T k (He.ga K x) fd ps A ∧ Binds K fd ps []
  mg : mg x = some (.ref (He.ga K x))
  kp : PySem.W.keepIn K (.ref (He.ga K x)) = true
/-- the same, the last parameters None by default -/
structure CalD (P : Program) (w : World) (K : PySem.W.Frag) (mg : Str → Option Value) (base : Heap) (T : NTabs) (x : Str) (k : Nat) (ps : List Str) (A : AF) (dps : List PV) : Prop where
  ex : ∃ fd ds dvs, FnA P w K mg base T k (He.ga K x) fd ps A ∧ Binds K fd ps ds ∧ Vals dvs ds ∧ ∀ w, RVs K w dps dvs
  mg : mg x = some (.ref (He.ga K x))
  kp : PySem.W.keepIn K (.ref (He.ga K x)) = true
def perm {α : Type} (d : α) (π : List Nat) (xs : List α) : List α := π.map fun i => xs.getD i d
/-- .. called with all its parameters as keywords ks; π: which keyword each parameter is -/
structure CalK (P : Program) (w : World) (K : PySem.W.Frag) (mg : Str → Option Value) (base : Heap) (T : NTabs) (x : Str) (k : Nat) (ps : List Str) (A : AF) (ks : List Str) (π : List Nat) : Prop where
  ex : ∃ fd, FnA P w K mg base T k (He.ga K x) fd ps A ∧ ∀ (s : Shared) (ws : List Value), ws.length = ks.length → BindsTo s fd ⟨[], ks.zip ws⟩ (ps.zip (perm Value.none π ws))
  lt : ∀ i ∈ π, i < ks.length
  mg : mg x = some (.ref (He.ga K x))
  kp : PySem.W.keepIn K (.ref (He.ga K x)) = true
theorem perm_rel {α β : Type} {R : α → β → Prop} {G : List α → List β → Prop} (gn : G [] []) (gc : ∀ {x y xs ys}, R x y → G xs ys → G (x :: xs) (y :: ys)) {d : α} {d' : β} {xs : List α} {ys : List β} (hg : ∀ i, i < xs.length → R (xs.getD i d) (ys.getD i d')) : ∀ {π : List Nat}, (∀ i ∈ π, i < xs.length) → G (perm d π xs) (perm d' π ys)
  | [], _ => gn
  | i :: π, h => gc (hg i (h i List.mem_cons_self)) (perm_rel gn gc hg fun j hj => h j (List.mem_cons_of_mem _ hj))
theorem Cal.d {P : Program} {w : World} {K : PySem.W.Frag} {mg : Str → Option Value} {base : Heap} {T : NTabs} {x : Str} {k : Nat} {ps : List Str} {A : AF} (C : Cal P w K mg base T x k ps A) : CalD P w K mg base T x k ps A [] := by
  obtain ⟨fd, F, b⟩ := C.ex
  exact ⟨⟨fd, [], [], F, b, .nil, fun w => RVs.nil⟩, C.mg, C.kp⟩
def aCall (F : AF) (dps : List PV) (A : AA) : AE := ⟨fun e h Q R => A.run e h (fun xs h1 => F.run (xs ++ dps) h1 Q R) R, fun q f g => A.mono q (fun _ _ q1 => F.mono q1 f g) g⟩
section
variable {X : Cx} {T : NTabs} {W : WX} {e a b c : Expr} {pos p : Pos} {x : Str} {k j : Nat} {ps : List Str} {F : AF} {dps : List PV}
theorem se_callD {es : List Expr} {A : AA} (C : CalD X.prog X.w X.K X.mg X.base T x k ps F dps) (hr : Room j X.A) (hk : k ≤ j) (tk : Takes X W) (ha : SA X T W (e :: es) A) (hg : Gl X x := by rfl) (hdb : (x == ("__debug__" : Str)) = false := by decide)
    (he : starEach (e :: es) X.env = (false, eval e X.env) :: starEach es X.env := by rfl) (hpl : (backTo pos (starEach es X.env)).any (·.1) = false := by rfl) : SE X T W (.Call (.Name x p) (e :: es) [] pos) (aCall F dps A) := by
  obtain ⟨fd, ds, dvs, hF, hb, hv, hd⟩ := C.ex
  refine peImp (pe_callSD (E := WE W) hF (hr.mono hk) hg C.mg C.kp hb hv (fun σ => passAt tk σ) ha hdb he hpl) fun σ H Q ⟨w, env, h, e0, R, E, q⟩ => ?_
  exact ⟨w, env, h, e0, R, E, A.mono q (fun xs h1 q1 w1 vs R1 L1 r1 => ⟨w1, h1, xs ++ dps, rfl, R1, RVs.append r1 (hd w1), F.mono q1 (fun y h2 q2 w2 v R2 L2 r2 => q2 w2 v R2 (L1.trans L2) r2) fun y h2 q2 w2 cls d R2 L2 r2 => q2 w2 cls d R2 (L1.trans L2) r2⟩) fun _ _ q1 => q1⟩
theorem se_call {es : List Expr} {A : AA} (C : Cal X.prog X.w X.K X.mg X.base T x k ps F) (hr : Room j X.A) (hk : k ≤ j) (tk : Takes X W) (ha : SA X T W (e :: es) A) (hg : Gl X x := by rfl) (hdb : (x == ("__debug__" : Str)) = false := by decide)
    (he : starEach (e :: es) X.env = (false, eval e X.env) :: starEach es X.env := by rfl) (hpl : (backTo pos (starEach es X.env)).any (·.1) = false := by rfl) : SE X T W (.Call (.Name x p) (e :: es) [] pos) (aCall F [] A) :=
  se_callD C.d hr hk tk ha hg hdb he hpl
/-- f() -/
theorem se_call0 (C : Cal X.prog X.w X.K X.mg X.base T x k ps F) (hr : Room j X.A) (hk : k ≤ j) (tk : Takes X W) (hg : Gl X x := by rfl) (hdb : (x == ("__debug__" : Str)) = false := by decide) : SE X T W (.Call (.Name x p) [] [] pos) (aCall F [] aNil) := by
  obtain ⟨fd, hF, hb⟩ := C.ex
  refine ⟨fun pins s σ H Q I h => ?_⟩
  obtain ⟨w, env, g, e0, R, E, q⟩ := h
  refine wpAny_Call_Name_kw (ld_glob I hg C.mg ?_ hdb)
  refine PySem.W.callWith_K0 I.kIn C.kp ?_
  refine run_fnSD (us := []) (vs := []) (dvs := []) (E := WE W) hF (hr.mono hk) hb .nil (passAt tk σ) I .nil ?_
  exact ⟨w, g, [], e0, R, RVs.nil, F.mono q (fun y h2 q2 w2 v R2 L2 r2 => q2 w2 v R2 L2 r2) fun y h2 q2 w2 cls d R2 L2 r2 => q2 w2 cls d R2 L2 r2⟩
/-- keywords alone -/
def aCallK (F : AF) (π : List Nat) (m : Nat) (A : AA) : AE := ⟨fun e h Q R => A.run e h (fun ys h2 => ys.length = m ∧ F.run (perm .non π ys) h2 Q R) R, fun q f k => A.mono q (fun _ _ ⟨l, q2⟩ => ⟨l, F.mono q2 f k⟩) k⟩
abbrev SK (X : Cx) (T : NTabs) (W : WX) (kws : List Keyword) (A : AA) : Prop := PK X kws (tA X.K T W A)
theorem pkImp {kws : List Keyword} {t t' : TA} (h : PK X kws t) (i : ∀ σ H Q, t' σ H Q → t σ H Q) : PK X kws t' := ⟨fun p pins s σ H Q I q => h.run p pins s σ H Q I (i σ H Q q)⟩
theorem sk_nil : SK X T W [] aNil := pkImp pk_nil fun σ H Q ⟨w, env, h, e, R, E, q⟩ => e ▸ q w [] R (Wd.Le.refl w) RVs.nil
theorem sk_cons {kws : List Keyword} {nm : Option Str} {kpos : Pos} {A : AE} {B : AA} (ha : SE X T W e A) (hb : SK X T W kws B) : SK X T W (⟨nm, e, kpos⟩ :: kws) (aCons A B) :=
  pkImp (pk_cons ha hb) fun σ H Q ⟨w, env, h, e, R, E, q⟩ => ⟨w, env, h, e, R, E, A.mono q (fun x h1 q1 w1 v1 R1 L1 r1 => ⟨w1, env, h1, rfl, R1, E.to L1, B.mono q1 (fun xs h2 q2 w2 vs R2 L2 r2 => q2 w2 _ R2 (L1.trans L2) (RVs.cons (r1.to L2) r2)) fun x h2 q2 => qx_le L1 q2⟩) fun _ _ q1 => q1⟩
theorem se_callK {kws : List Keyword} {ks : List Str} {π : List Nat} {A : AA} (C : CalK X.prog X.w X.K X.mg X.base T x k ps F ks π) (hr : Room j X.A) (hk : k ≤ j) (tk : Takes X W) (ha : SK X T W kws A) (hg : Gl X x := by rfl) (hdb : (x == ("__debug__" : Str)) = false := by decide)
    (hall : (backToKw pos (keywordEach kws X.env)).all (·.1.isSome) = true := by rfl) (hks : (backToKw pos (keywordEach kws X.env)).filterMap (·.1) = ks := by rfl)
    (hpl : ((backTo pos (starEach [] X.env)).any (·.1) || (backToKw pos (keywordEach kws X.env)).any (·.1.isNone)) = false := by rfl) : SE X T W (.Call (.Name x p) [] kws pos) (aCallK F π ks.length A) := by
  obtain ⟨fd, hF, hb⟩ := C.ex
  refine ⟨fun pins s σ H Q I h => ?_⟩
  refine wpAny_Call_Name_kw (ld_glob I hg C.mg ?_ hdb)
  refine PySem.W.callWith_KW0 (h₀ := X.base) I.ok.mod.kin C.kp hall ?_ hpl
  have hA : tA X.K T W A σ H (fun vs H2 => vs.length = ks.length ∧ spA X.K T F (perm V.non π vs) H2 Q (WE W σ)) := by
    obtain ⟨w, env, g, e0, R, E, q⟩ := h
    refine ⟨w, env, g, e0, R, E, A.mono q (fun ys h2 ⟨l, q2⟩ w2 vs R2 L2 r2 => ⟨by rw [← r2.length]; exact l, w2, h2, perm .non π ys, rfl, R2, ?_, F.mono q2 (fun y h2 q2 w3 v R2 L3 r2 => q2 w3 v R2 (L2.trans L3) r2) fun y h2 q2 w3 cls d R2 L3 r2 => q2 w3 cls d R2 (L2.trans L3) r2⟩) fun _ _ q1 => q1⟩
    refine perm_rel (R := RV X.K w2) (G := RVs X.K w2) RVs.nil RVs.cons (fun i hi => ?_) fun i hi => by rw [l]; exact C.lt i hi
    obtain ⟨v, e1, e2⟩ := r2.get (i := i) (x := ys[i]) (by simp [hi])
    rw [List.getD_eq_getElem?_getD, List.getD_eq_getElem?_getD, e1]
    simpa [hi] using e2
  refine thn (ha.run pos pins s σ H _ I hA) fun ws s2 ⟨zs, H2, I2, rz, l2, q2⟩ => ⟨I2.kIn, ?_⟩
  rw [hks]
  have lw : ws.length = ks.length := rz.length.symm.trans l2
  have rp : Vals (perm V.non π zs) (perm Value.none π ws) := by
    refine perm_rel (R := RelV) (G := Vals) .nil (fun a b => .cons a b) (fun i hi => ?_) fun i hi => by rw [l2]; exact C.lt i hi
    obtain ⟨u, e1, e2⟩ := rz.get (i := i) (x := zs[i]) (by simp [hi])
    rw [List.getD_eq_getElem?_getD, List.getD_eq_getElem?_getD, e1]
    simpa [hi] using e2
  refine wpAny_call (codeAny_mono (hF.run X.A X.stack s2 H2 ⟨[], ks.zip ws⟩ (perm Value.none π ws) (perm V.non π zs) Q (WE W σ) (hr.mono hk) I2.env0 (hb s2 ws lw) rp q2) fun r s' hq => ?_)
  cases r with
  | error e => exact passAt tk σ pins H2 s2 e s' I2 hq
  | ok fl =>
    cases fl with
    | ret u => exact I2.after hq
    | next => exact False.elim hq
    | brk => exact False.elim hq
    | cont => exact False.elim hq

/-! ### comprehensions -/
theorem se_lc {elt tg iter : Expr} {ifs : List Expr} {scope : Scope} {own : List (Str × Nat)} {it : AI} {g : AG} {C : AT} {A : AE} (hc : X.calm = true) (hN : X.N.Nodup) (ok : BlkOk X.N X.env.scope scope own) (hi : SI X T W tg iter it)
    (hg : ∀ (s : Shared) (H : Hp) (D : Addr) (cl : List (Str × Addr)) (fp : List Addr), SG (X.blk s H scope (compEnvC scope cl D X.env) fp) T (own.map (·.2)) tg g) (ht : ∀ (s : Shared) (H : Hp) (D : Addr) (cl : List (Str × Addr)) (fp : List Addr), STs (X.blk s H scope (compEnvC scope cl D X.env) fp) T WN ifs C)
    (he : ∀ (s : Shared) (H : Hp) (D : Addr) (cl : List (Str × Addr)) (fp : List Addr), SE (X.blk s H scope (compEnvC scope cl D X.env) fp) T WN elt A) (hs : ∀ x, foldedSetIterable iter X.env x = pure x := by intro _; rfl) :
    SE X T W (.ListComp elt [⟨tg, iter, ifs, 0⟩] scope pos) (aLc it g C A (own.map (·.2))) :=
  peImp (pe_lc hc hN hi ok hg ht he hs) fun σ H Q q => lc_sound q
theorem ss_setLc {i : Nat} {y : Str} {py spos : Pos} {elt tg iter : Expr} {ifs : List Expr} {scope : Scope} {own : List (Str × Nat)} {it : AI} {g : AG} {C : AT} {A : AE} (hc : X.calm = true) (hN : X.N.Nodup) (hsw : swapsWith (.ListComp elt [⟨tg, iter, ifs, 0⟩] scope pos) (some (.Name y py)) spos.line X.env = pure true)
    (ok : BlkOk X.N X.env.scope scope own) (hi : SI X T W tg iter it)
    (hg : ∀ (s : Shared) (H : Hp) (D : Addr) (cl : List (Str × Addr)) (fp : List Addr), SG (X.blk s H scope (compEnvC scope cl D X.env) fp) T (own.map (·.2)) tg g) (ht : ∀ (s : Shared) (H : Hp) (D : Addr) (cl : List (Str × Addr)) (fp : List Addr), STs (X.blk s H scope (compEnvC scope cl D X.env) fp) T WN ifs C)
    (he : ∀ (s : Shared) (H : Hp) (D : Addr) (cl : List (Str × Addr)) (fp : List Addr), SE (X.blk s H scope (compEnvC scope cl D X.env) fp) T WN elt A) (hy : X.N[i]? = some y := by rfl) (hyl : X.env.scope.names.lookup y = some .local := by rfl) (hs : ∀ x, foldedSetIterable iter X.env x = pure x := by intro _; rfl) :
    SS X T W (.Assign [.Name y py] (.ListComp elt [⟨tg, iter, ifs, 0⟩] scope pos) spos) (sAsg (aLc it g C A (own.map (·.2))) (gNm i)) :=
  psImp (ps_setLc hc hN hy hyl hsw hi ok hg ht he hs) fun D σ H q => by
    obtain ⟨w, env, h, e, R, E, q⟩ := q
    refine @lc_sound X T W it g C A (own.map (·.2)) σ H _ ⟨w, env, h, e, R, E, ?_⟩
    have q : (aLc it g C A (own.map (·.2))).run env h (fun v h' => (gNm i).run v env h' (low X.K T W w D).nx) (fun x h' => (low X.K T W w D).ex x env h') := q
    refine (aLc it g C A (own.map (·.2))).mono q ?_ ?_
    · intro x h1 q1 w1 v1 R1 L1 r1
      exact q1 w1 _ R1 L1 ((E.to L1).set i r1)
    · intro x h1 q1
      exact ex_qx E q1

/-! ### walks -/
def iOf (A : AE) (f : PV → Hh → Itr → Prop) : AI := ⟨fun e h Q R => A.run e h (fun x h1 => ∃ J, f x h1 J ∧ Q J h1) R, fun q f g => A.mono q (fun _ _ ⟨J, a, q1⟩ => ⟨J, a, f _ _ q1⟩) g⟩
theorem fits_list {K : PySem.W.Frag} {w0 : Wd} {J : Itr} {a : Addr} (h : ∀ w g, w0.Le w → Rel K T w g → J.ok g → ∃ vs, SqL K w.H a vs ∧ RVs K w J.items vs) : Fits K T J (Itl K a) w0 := fun i w g L R ok => by
  obtain ⟨vs, hs, r⟩ := h w g L R ok
  refine ⟨fun e => ⟨vs, hs, by rw [← r.length, e]; exact Nat.le_refl _⟩, fun x hx => ?_⟩
  obtain ⟨v, e1, r1⟩ := r.get hx
  refine ⟨⟨vs, v, hs, e1⟩, fun v' H' ⟨eH, yv⟩ => ?_⟩
  have e2 := yv vs hs
  rw [e1] at e2
  cases e2
  exact ⟨w, eH.symm, R, Wd.Le.refl w, r1⟩
theorem fits_tup {K : PySem.W.Frag} {w0 : Wd} {J : Itr} {a : Addr} (h : ∀ w g, w0.Le w → Rel K T w g → J.ok g → ∃ vs, SqT K w.H a vs ∧ RVs K w J.items vs) : Fits K T J (Itt K a) w0 := fun i w g L R ok => by
  obtain ⟨vs, hs, r⟩ := h w g L R ok
  refine ⟨fun e => ⟨vs, hs, by rw [← r.length, e]; exact Nat.le_refl _⟩, fun x hx => ?_⟩
  obtain ⟨v, e1, r1⟩ := r.get hx
  refine ⟨⟨vs, v, hs, e1⟩, fun v' H' ⟨eH, yv⟩ => ?_⟩
  have e2 := yv vs hs
  rw [e1] at e2
  cases e2
  exact ⟨w, eH.symm, R, Wd.Le.refl w, r1⟩
/-- what a value that is a list or a tuple holds -/
theorem at_list {K : PySem.W.Frag} {w : Wd} {h : Hh} {l : Nat} {xs : List PV} {v : V} (R : Rel K T w h) (r : RV K w (.loc l) v) (e : h[l]? = some (.lst xs)) : ∃ vs, v = .ref (w.m l) ∧ w.H (w.m l) = some (.lst vs) ∧ RVs K w xs vs := by
  rw [RV] at r
  obtain ⟨vs, h1, h2⟩ := R.cell _ _ e
  exact ⟨vs, r.2, h1, h2⟩
theorem fits_str {K : PySem.W.Frag} {w0 : Wd} {z : Str} : Fits K T ⟨z.cps.toList.map fun c => .str ⟨#[c]⟩, fun _ => True⟩ (Its z) w0 := fun i w g L R _ => by
  refine ⟨fun e => ?_, fun x hx => ?_⟩
  · have e : i = (z.cps.toList.map fun c => PV.str ⟨#[c]⟩).length := e
    rw [List.length_map, Array.length_toList] at e
    exact Nat.le_of_eq e.symm
  · have hx : (z.cps.toList.map fun c => PV.str ⟨#[c]⟩)[i]? = some x := hx
    rw [List.getElem?_map, Array.getElem?_toList] at hx
    cases hc : z.cps[i]? with
    | none => rw [hc] at hx; cases hx
    | some c =>
      rw [hc] at hx
      cases hx
      refine ⟨(Array.getElem?_eq_some_iff.mp hc).1, fun v H' ⟨e1, c', e2, e3⟩ => ⟨w, e1.symm, R, Wd.Le.refl w, ?_⟩⟩
      rw [hc] at e2
      cases e2
      rw [RV]
      exact e3
/-- a list, a tuple, a text, walked -/
def SeqItr (x : PV) (h : Hh) (J : Itr) : Prop := match x with
  | .loc l => ∃ xs, h[l]? = some (.lst xs) ∧ J = ⟨xs, fun g => g[l]? = some (.lst xs)⟩
  | .fls xs => J = ⟨xs, fun _ => True⟩
  | .tup xs => J = ⟨xs, fun _ => True⟩
  | .ftp xs => J = ⟨xs, fun _ => True⟩
  | .str z => J = ⟨z.cps.toList.map fun c => .str ⟨#[c]⟩, fun _ => True⟩
  | _ => False
def itS (A : AE) : AI := iOf A SeqItr
theorem si_seq {tg : Expr} {A : AE} (ha : SE X T W e A) : SI X T W tg e (itS A) :=
  piImp (PyN.pi_seq ha) fun σ H R ⟨w, env, h, e0, RR, E, q⟩ => ⟨w, env, h, e0, RR, E, A.mono q (fun x h1 ⟨J, hJ, q1⟩ w1 v1 R1 L1 r1 => by
    cases x with
    | loc l =>
      obtain ⟨xs, hl, eJ⟩ := hJ
      subst eJ
      obtain ⟨vs, e1, e2, e3⟩ := at_list R1 r1 hl
      rw [RV] at r1
      refine .inl ⟨_, vs, e1, .of e2, q1 w1 _ R1 L1 (fits_list fun w g L R ok => ?_)⟩
      obtain ⟨us, f1, f2⟩ := R.cell _ _ ok
      exact ⟨us, .of (by rw [← L.m l r1.1]; exact f1), f2⟩
    | fls xs =>
      subst hJ
      rw [RV] at r1
      obtain ⟨a, vs, e1, e2, e3⟩ := r1
      exact .inl ⟨a, vs, e1, e2.sq, q1 w1 _ R1 L1 (fits_list fun w g L R ok => ⟨vs, (e2.to L).sq, e3.to L⟩)⟩
    | tup xs =>
      subst hJ
      rw [RV] at r1
      obtain ⟨a, vs, e1, e2, e3⟩ := r1
      exact .inr (.inl ⟨a, vs, e1, e2.sq, q1 w1 _ R1 L1 (fits_tup fun w g L R ok => ⟨vs, (e2.to L).sq, e3.to L⟩)⟩)
    | ftp xs =>
      subst hJ
      rw [RV] at r1
      obtain ⟨a, vs, od, e1, off, e2, hd, e3⟩ := r1
      exact .inr (.inl ⟨a, vs, e1, .inl (.inr ⟨od, e2⟩), q1 w1 _ R1 L1 (fits_tup fun w g L R ok => ⟨vs, .inl (.inr ⟨od, L.frz _ _ _ e2⟩), e3.to L⟩)⟩)
    | str z =>
      subst hJ
      rw [RV] at r1
      exact .inr (.inr ⟨z, r1, q1 w1 _ R1 L1 fits_str⟩)
    | _ => exact hJ.elim) fun _ _ q1 => q1⟩
/-- for i in range(n), range(a, b) -/
def rngI (lo : Int) (n : Nat) : Itr := ⟨(List.range n).map fun i => .int (lo + (i : Nat)), fun _ => True⟩
def itR1 (A : AA) : AI := ⟨fun e h Q R => A.run e h (fun xs h1 => ∃ j : Int, xs = [.int j] ∧ -(2 ^ 62) ≤ j ∧ j < 2 ^ 62 ∧ Q (rngI 0 j.toNat) h1) R, fun q f g => A.mono q (fun _ _ ⟨j, a, b, c, q1⟩ => ⟨j, a, b, c, f _ _ q1⟩) g⟩
def itR2 (A : AA) : AI := ⟨fun e h Q R => A.run e h (fun xs h1 => ∃ i j : Int, xs = [.int i, .int j] ∧ (-(2 ^ 62) ≤ i ∧ i < 2 ^ 62 ∧ -(2 ^ 62) ≤ j ∧ j < 2 ^ 62) ∧ Q (rngI i (j - i).toNat) h1) R, fun q f g => A.mono q (fun _ _ ⟨i, j, a, b, q1⟩ => ⟨i, j, a, b, f _ _ q1⟩) g⟩
theorem fits_range {K : PySem.W.Frag} {w0 : Wd} {lo : Int} {n : Nat} : Fits K T (rngI lo n) (L2.Itr lo n) w0 := fun i w g L R _ => by
  refine ⟨fun e => ?_, fun x hx => ?_⟩
  · have e : i = ((List.range n).map fun i => PV.int (lo + (i : Nat))).length := e
    rw [List.length_map, List.length_range] at e
    exact Nat.le_of_eq e.symm
  · have hx : ((List.range n).map fun i => PV.int (lo + (i : Nat)))[i]? = some x := hx
    rw [List.getElem?_map] at hx
    by_cases hi : i < n
    · rw [List.getElem?_range hi] at hx
      cases hx
      refine ⟨hi, fun v H' ⟨e1, e2⟩ => ⟨w, e1.symm, R, Wd.Le.refl w, ?_⟩⟩
      rw [RV]
      exact e2
    · rw [List.getElem?_eq_none (by simpa using hi)] at hx
      cases hx
theorem rvs1 {K : PySem.W.Frag} {w : Wd} {x : PV} {vs : List V} (r : RVs K w [x] vs) : ∃ v, vs = [v] ∧ RV K w x v := by
  rw [RVs] at r
  obtain ⟨v, t, e, h1, h2⟩ := r
  rw [RVs] at h2
  subst h2
  exact ⟨v, e, h1⟩
theorem rvs2 {K : PySem.W.Frag} {w : Wd} {x y : PV} {vs : List V} (r : RVs K w [x, y] vs) : ∃ v u, vs = [v, u] ∧ RV K w x v ∧ RV K w y u := by
  rw [RVs] at r
  obtain ⟨v, t, e, h1, h2⟩ := r
  obtain ⟨u, e2, h3⟩ := rvs1 h2
  subst e2
  exact ⟨v, u, e, h1, h3⟩
theorem rvs3 {K : PySem.W.Frag} {w : Wd} {x y z : PV} {vs : List V} (r : RVs K w [x, y, z] vs) : ∃ v u t, vs = [v, u, t] ∧ RV K w x v ∧ RV K w y u ∧ RV K w z t := by
  rw [RVs] at r
  obtain ⟨v, t, e, h1, h2⟩ := r
  obtain ⟨u, s, e2, h3, h4⟩ := rvs2 h2
  subst e2
  exact ⟨v, u, s, e, h1, h3, h4⟩
theorem si_range1 {tg : Expr} {A : AA} {p : Pos} (hm : X.mg "range" = none) (ha : SA X T W [a] A) (hg : Gl X "range" := by rfl) (hs : starEach [a] X.env = [(false, eval a X.env)] := by rfl) : SI X T W tg (.Call (.Name "range" p) [a] [] pos) (itR1 A) :=
  piImp (pi_range1 hg hm ha hs) fun σ H R ⟨w, env, h, e0, RR, E, q⟩ => ⟨w, env, h, e0, RR, E, A.mono q (fun xs h1 ⟨j, e1, b1, b2, q1⟩ w1 vs R1 L1 r1 => by
    subst e1
    obtain ⟨v, e2, r⟩ := rvs1 r1
    rw [RV] at r
    subst r
    exact ⟨j, e2, b1, b2, q1 w1 _ R1 L1 fits_range⟩) fun _ _ q1 => q1⟩
theorem si_range2 {tg : Expr} {A : AA} {p : Pos} (hm : X.mg "range" = none) (ha : SA X T W [a, b] A) (hg : Gl X "range" := by rfl) (hs : starEach [a, b] X.env = [(false, eval a X.env), (false, eval b X.env)] := by rfl) (hs2 : starEach [b] X.env = [(false, eval b X.env)] := by rfl) : SI X T W tg (.Call (.Name "range" p) [a, b] [] pos) (itR2 A) :=
  piImp (pi_range2 hg hm ha hs hs2) fun σ H R ⟨w, env, h, e0, RR, E, q⟩ => ⟨w, env, h, e0, RR, E, A.mono q (fun xs h1 ⟨i, j, e1, b1, q1⟩ w1 vs R1 L1 r1 => by
    subst e1
    obtain ⟨v, u, e2, r, r'⟩ := rvs2 r1
    rw [RV] at r r'
    subst r r'
    exact ⟨i, j, e2, b1, q1 w1 _ R1 L1 fits_range⟩) fun _ _ q1 => q1⟩
/-- enumerate(a list or a tuple) -/
def enuI (xs : List PV) (ok : Hh → Prop) : Itr := ⟨xs.zipIdx.map fun p => .tup [.int (p.2 : Nat), p.1], ok⟩
def EnuItr (x : PV) (h : Hh) (J : Itr) : Prop := (∃ l xs, x = .loc l ∧ h[l]? = some (.lst xs) ∧ J = enuI xs fun g => g[l]? = some (.lst xs)) ∨ (∃ xs, x = .fls xs ∧ J = enuI xs fun _ => True) ∨ ∃ xs, x = .tup xs ∧ J = enuI xs fun _ => True
def itEn (A : AA) : AI := ⟨fun e h Q R => A.run e h (fun xs h1 => ∃ x J, xs = [x] ∧ EnuItr x h1 J ∧ Q J h1) R, fun q f g => A.mono q (fun _ _ ⟨x, J, a, b, q1⟩ => ⟨x, J, a, b, f _ _ q1⟩) g⟩
theorem enu_get {xs : List PV} {ok : Hh → Prop} {i : Nat} {x : PV} (h : (enuI xs ok).items[i]? = some x) : ∃ y, xs[i]? = some y ∧ x = .tup [.int (i : Nat), y] := by
  have h : (xs.zipIdx.map fun p => PV.tup [.int (p.2 : Nat), p.1])[i]? = some x := h
  rw [List.getElem?_map, List.getElem?_zipIdx] at h
  cases q : xs[i]? with
  | none => rw [q] at h; cases h
  | some y =>
    rw [q] at h
    refine ⟨y, rfl, ?_⟩
    have := Option.some.inj h
    rw [← this]
    simp
theorem enu_len {xs : List PV} {ok : Hh → Prop} : (enuI xs ok).items.length = xs.length := by simp [enuI]
theorem newPair {K : PySem.W.Frag} {w : Wd} {h : Hh} {x y : PV} {v u : V} {p : Addr} (R : Rel K T w h) (hp : w.H p = none) (r : RV K w x v) (r' : RV K w y u) : ∃ w', w'.H = upd w.H p (.tup [v, u]) ∧ Rel K T w' h ∧ w.Le w' ∧ RV K w' (.tup [x, y]) (.ref p) := by
  obtain ⟨a1, a2, a3⟩ := newTup (T := T) R hp (RVs.cons r (RVs.cons r' RVs.nil))
  exact ⟨_, rfl, a1, a2, a3⟩
theorem rv_int {K : PySem.W.Frag} {w : Wd} {i : Int} : RV K w (.int i) (.int i) := by rw [RV]
theorem fits_enum {K : PySem.W.Frag} {w0 : Wd} {xs : List PV} {ok : Hh → Prop} {a : Addr} (h : ∀ w g, w0.Le w → Rel K T w g → ok g → ∃ vs, SqL K w.H a vs ∧ RVs K w xs vs) : Fits K T (enuI xs ok) (Ite K a) w0 := fun i w g L R o => by
  obtain ⟨vs, hs, r⟩ := h w g L R o
  refine ⟨fun e => ⟨vs, hs, by rw [← r.length, e, enu_len]; exact Nat.le_refl _⟩, fun x hx => ?_⟩
  obtain ⟨y, e0, ex⟩ := enu_get hx
  obtain ⟨v, e1, r1⟩ := r.get e0
  refine ⟨⟨vs, v, hs, e1⟩, fun v' H' ⟨T', x', e2, hT, eH, yv⟩ => ?_⟩
  have e3 := yv vs hs
  rw [e1] at e3
  cases e3
  obtain ⟨w', f1, f2, f3, f4⟩ := newPair (T := T) R hT (rv_int (i := (i : Nat))) r1
  exact ⟨w', f1.trans eH.symm, f2, f3, by rw [ex, e2]; exact f4⟩
theorem fits_enumT {K : PySem.W.Frag} {w0 : Wd} {xs : List PV} {ok : Hh → Prop} {a : Addr} (h : ∀ w g, w0.Le w → Rel K T w g → ok g → ∃ vs, SqT K w.H a vs ∧ RVs K w xs vs) : Fits K T (enuI xs ok) (PyN.IteT K a) w0 := fun i w g L R o => by
  obtain ⟨vs, hs, r⟩ := h w g L R o
  refine ⟨fun e => ⟨vs, hs, by rw [← r.length, e, enu_len]; exact Nat.le_refl _⟩, fun x hx => ?_⟩
  obtain ⟨y, e0, ex⟩ := enu_get hx
  obtain ⟨v, e1, r1⟩ := r.get e0
  refine ⟨⟨vs, v, hs, e1⟩, fun v' H' ⟨T', x', e2, hT, eH, yv⟩ => ?_⟩
  have e3 := yv vs hs
  rw [e1] at e3
  cases e3
  obtain ⟨w', f1, f2, f3, f4⟩ := newPair (T := T) R hT (rv_int (i := (i : Nat))) r1
  exact ⟨w', f1.trans eH.symm, f2, f3, by rw [ex, e2]; exact f4⟩
theorem si_enum {elts : List Expr} {kk : Nat} {tpos p : Pos} {A : AA} (hm : X.mg "enumerate" = none) (ha : SA X T W [a] A) (hg : Gl X "enumerate" := by rfl) (hs : starEach [a] X.env = [(false, eval a X.env)] := by rfl) : SI X T W (.Tuple elts kk tpos) (.Call (.Name "enumerate" p) [a] [] pos) (itEn A) :=
  piImp (PyN.pi_enumA hg hm ha hs) fun σ H R ⟨w, env, h, e0, RR, E, q⟩ => ⟨w, env, h, e0, RR, E, A.mono q (fun xs h1 ⟨x, J, e1, hJ, q1⟩ w1 vs R1 L1 r1 => by
    subst e1
    obtain ⟨v, e2, r⟩ := rvs1 r1
    subst e2
    rcases hJ with ⟨l, xs, ex, hl, eJ⟩ | ⟨xs, ex, eJ⟩ | ⟨xs, ex, eJ⟩
    · subst ex eJ
      obtain ⟨us, f1, f2, f3⟩ := at_list R1 r hl
      rw [RV] at r
      subst f1
      refine ⟨_, rfl, .inl ⟨us, .of f2, q1 w1 _ R1 L1 (fits_enum fun w g L R ok => ?_)⟩⟩
      obtain ⟨us, f1, f2⟩ := R.cell _ _ ok
      exact ⟨us, .of (by rw [← L.m l r.1]; exact f1), f2⟩
    · subst ex eJ
      rw [RV] at r
      obtain ⟨a, us, f1, f2, f3⟩ := r
      subst f1
      exact ⟨a, rfl, .inl ⟨us, f2.sq, q1 w1 _ R1 L1 (fits_enum fun w g L R ok => ⟨us, (f2.to L).sq, f3.to L⟩)⟩⟩
    · subst ex eJ
      rw [RV] at r
      obtain ⟨a, us, f1, f2, f3⟩ := r
      subst f1
      exact ⟨a, rfl, .inr ⟨us, f2.sq, q1 w1 _ R1 L1 (fits_enumT fun w g L R ok => ⟨us, (f2.to L).sq, f3.to L⟩)⟩⟩) fun _ _ q1 => q1⟩
end
end PyA
end
section
set_option Elab.async false
set_option linter.all false
set_option maxRecDepth 100000
set_option maxHeartbeats 4000000
/-! PyO: operators, subscripts, built-ins, methods. -/
namespace PyA
open PySem L2 PySem.Spec PyProof.Rows
section
variable {X : Cx} {T : NTabs} {W : WX} {e a b c : Expr} {pos p : Pos} {K : PySem.W.Frag} {w : Wd} {h : Hh}

/-! ### data -/
def dat (h : Hh) : Nat → PV → Option PyData
  | 0, _ => none
  | n + 1, x => match x with
    | .non => some .none
    | .bl b => some (.bool b)
    | .int i => some (.int i)
    | .str s => some (.str s)
    | .tup xs => (xs.mapM (dat h n)).map .tuple
    | .fls xs => (xs.mapM (dat h n)).map .list
    | .ftp xs => (xs.mapM (dat h n)).map .tuple
    | .loc l => match h[l]? with
      | some (.lst xs) => (xs.mapM (dat h n)).map .list
      | _ => none
    | _ => none
theorem mapM_cons {α β : Type} {f : α → Option β} {x : α} {xs : List α} {ds : List β} (h : (x :: xs).mapM f = some ds) : ∃ d r, f x = some d ∧ xs.mapM f = some r ∧ ds = d :: r := by
  rw [List.mapM_cons] at h
  cases e1 : f x with
  | none => rw [e1] at h; cases h
  | some d =>
    rw [e1] at h
    cases e2 : xs.mapM f with
    | none => rw [e2] at h; cases h
    | some r =>
      rw [e2] at h
      exact ⟨d, r, rfl, rfl, (Option.some.inj h).symm⟩
theorem dp_of (R : Rel K T w h) : ∀ (n : Nat) {x : PV} {v : V} {d : PyData}, RV K w x v → dat h n x = some d → Dp K w.H v d
  | 0, _, _, _, _, e => by cases e
  | n + 1, x, v, d, r, e => by
    have all : ∀ {xs : List PV} {vs : List V} {ds : List PyData}, RVs K w xs vs → xs.mapM (dat h n) = some ds → DpAll K w.H vs ds := by
      intro xs
      induction xs with
      | nil =>
        intro vs ds r e
        rw [RVs] at r
        subst r
        cases e
        exact .nil
      | cons y ys ih =>
        intro vs ds r e
        rw [RVs] at r
        obtain ⟨v, t, e1, r1, r2⟩ := r
        subst e1
        obtain ⟨d, rr, f1, f2, f3⟩ := mapM_cons e
        subst f3
        exact .cons (dp_of R n r1 f1) (ih r2 f2)
    cases x with
    | non => rw [RV] at r; subst r; cases e; exact .non
    | bl b => rw [RV] at r; subst r; cases e; exact .bl b
    | int i => rw [RV] at r; subst r; cases e; exact .int i
    | str s => rw [RV] at r; subst r; cases e; exact .str s
    | tup xs =>
      rw [RV] at r
      obtain ⟨a, vs, e1, ht, r⟩ := r
      subst e1
      obtain ⟨ds, e2, e3⟩ := Option.map_eq_some_iff.mp (show (xs.mapM (dat h n)).map PyData.tuple = some d from e)
      subst e3
      exact .tup ht.sq (all r e2)
    | fls xs =>
      rw [RV] at r
      obtain ⟨a, vs, e1, ht, r⟩ := r
      subst e1
      obtain ⟨ds, e2, e3⟩ := Option.map_eq_some_iff.mp (show (xs.mapM (dat h n)).map PyData.list = some d from e)
      subst e3
      exact .lst ht.sq (all r e2)
    | ftp xs =>
      rw [RV] at r
      obtain ⟨a, vs, od, e1, off, ht, hd, r⟩ := r
      subst e1
      obtain ⟨ds, e2, e3⟩ := Option.map_eq_some_iff.mp (show (xs.mapM (dat h n)).map PyData.tuple = some d from e)
      subst e3
      exact .tup (.inl (.inr ⟨od, ht⟩)) (all r e2)
    | loc l =>
      have e : (match h[l]? with
        | some (.lst xs) => (xs.mapM (dat h n)).map PyData.list
        | _ => none) = some d := e
      cases q : h[l]? with
      | none => rw [q] at e; cases e
      | some c =>
        rw [q] at e
        cases c with
        | lst xs =>
          obtain ⟨vs, e1, e2, e3⟩ := at_list R r q
          subst e1
          obtain ⟨ds, f2, f3⟩ := Option.map_eq_some_iff.mp (show (xs.mapM (dat h n)).map PyData.list = some d from e)
          subst f3
          exact .lst (.of e2) (all e3 f2)
        | _ => cases e
    | _ => cases e
def oEq : AO2 := ⟨fun x y h Q => ∃ n d e, dat h n x = some d ∧ dat h n y = some e ∧ SeqAt.shaped d = true ∧ SeqAt.shaped e = true ∧ Q (.bl (PyData.eqv d e)) h, fun ⟨n, d, e, a, b, c, k, q⟩ f => ⟨n, d, e, a, b, c, k, f _ _ q⟩⟩
def oNe : AO2 := ⟨fun x y h Q => ∃ n d e, dat h n x = some d ∧ dat h n y = some e ∧ SeqAt.shaped d = true ∧ SeqAt.shaped e = true ∧ Q (.bl (!PyData.eqv d e)) h, fun ⟨n, d, e, a, b, c, k, q⟩ f => ⟨n, d, e, a, b, c, k, f _ _ q⟩⟩
theorem rv_bl {i : Bool} : RV K w (.bl i) (.bl i) := by rw [RV]
theorem rv_non : RV K w .non .non := by rw [RV]
theorem op_eqS (hu : X.A.units + 64 < cLine) : OpS X T (compareOp .Eq) oEq := opImp (op_eqD hu) fun v u H Q ⟨w, h, x, y, e0, R, r1, r2, n, d, e, a, b, c, k, q⟩ => by
  subst e0
  exact ⟨d, e, dp_of R n r1 a, dp_of R n r2 b, c, k, q w _ R (Wd.Le.refl w) rv_bl⟩
theorem op_neS (hu : X.A.units + 64 < cLine) : OpS X T (compareOp .NotEq) oNe := opImp (op_neD hu) fun v u H Q ⟨w, h, x, y, e0, R, r1, r2, n, d, e, a, b, c, k, q⟩ => by
  subst e0
  exact ⟨d, e, dp_of R n r1 a, dp_of R n r2 b, c, k, q w _ R (Wd.Le.refl w) rv_bl⟩
/-- x in a list of data -/
def oIn : AO2 := ⟨fun x y h Q => ∃ n d ds, dat h n x = some d ∧ dat h n y = some (.list ds) ∧ SeqAt.shaped d = true ∧ SeqAt.shaped (.list ds) = true ∧ Q (.bl (ds.any fun z => PyData.eqv z d)) h, fun ⟨n, d, e, a, b, c, k, q⟩ f => ⟨n, d, e, a, b, c, k, f _ _ q⟩⟩
def oNotIn : AO2 := ⟨fun x y h Q => ∃ n d ds, dat h n x = some d ∧ dat h n y = some (.list ds) ∧ SeqAt.shaped d = true ∧ SeqAt.shaped (.list ds) = true ∧ Q (.bl (!ds.any fun z => PyData.eqv z d)) h, fun ⟨n, d, e, a, b, c, k, q⟩ f => ⟨n, d, e, a, b, c, k, f _ _ q⟩⟩
theorem op_inS (hu : X.A.units + 65 < cLine) : OpS X T (compareOp .In) oIn := opImp (op_inD hu) fun v u H Q ⟨w, h, x, y, e0, R, r1, r2, n, d, e, a, b, c, k, q⟩ => by
  subst e0
  exact ⟨d, e, dp_of R n r1 a, dp_of R n r2 b, c, k, q w _ R (Wd.Le.refl w) rv_bl⟩
theorem op_notInS (hu : X.A.units + 65 < cLine) : OpS X T (compareOp .NotIn) oNotIn := opImp (op_notInD hu) fun v u H Q ⟨w, h, x, y, e0, R, r1, r2, n, d, e, a, b, c, k, q⟩ => by
  subst e0
  exact ⟨d, e, dp_of R n r1 a, dp_of R n r2 b, c, k, q w _ R (Wd.Le.refl w) rv_bl⟩
/-- is None -/
def isNon : PV → Bool
  | .non => true
  | _ => false
theorem isNon_rv {x : PV} {v : V} (r : RV K w x v) : decide (v = .non) = isNon x := by
  cases x with
  | non => rw [RV] at r; subst r; rfl
  | bl b => rw [RV] at r; subst r; rfl
  | int b => rw [RV] at r; subst r; rfl
  | str b => rw [RV] at r; subst r; rfl
  | tup xs => rw [RV] at r; obtain ⟨a, vs, e, _⟩ := r; subst e; rfl
  | fls xs => rw [RV] at r; obtain ⟨a, vs, e, _⟩ := r; subst e; rfl
  | ftp xs => rw [RV] at r; obtain ⟨a, vs, od, e, _⟩ := r; subst e; rfl
  | loc n => rw [RV] at r; rw [r.2]; rfl
  | adr n => rw [RV] at r; subst r; rfl
  | gf n => rw [RV] at r; subst r; rfl
  | clo d f c cl xs vs => rw [RV] at r; rw [r.1]; rfl
  | ty n => rw [RV] at r; subst r; rfl
  | exn c f s => rw [RV] at r; obtain ⟨a, vs, e, _⟩ := r; subst e; rfl
def oIsN : AO2 := ⟨fun x y h Q => y = .non ∧ Q (.bl (isNon x)) h, fun ⟨a, q⟩ f => ⟨a, f _ _ q⟩⟩
def oNotN : AO2 := ⟨fun x y h Q => y = .non ∧ Q (.bl (!isNon x)) h, fun ⟨a, q⟩ f => ⟨a, f _ _ q⟩⟩
theorem op_isNS : OpS X T (compareOp .Is) oIsN := opImp op_isN fun v u H Q ⟨w, h, x, y, e0, R, r1, r2, e1, q⟩ => by
  subst e0 e1
  rw [RV] at r2
  exact ⟨r2, by rw [isNon_rv r1]; exact q w _ R (Wd.Le.refl w) rv_bl⟩
theorem op_notNS : OpS X T (compareOp .IsNot) oNotN := opImp op_notN fun v u H Q ⟨w, h, x, y, e0, R, r1, r2, e1, q⟩ => by
  subst e0 e1
  rw [RV] at r2
  exact ⟨r2, by rw [isNon_rv r1]; exact q w _ R (Wd.Le.refl w) rv_bl⟩
/-! ### ints -/
def oI (C : Int → Int → Prop) (g : Int → Int → PV) : AO2 := ⟨fun x y h Q => ∃ i j, x = .int i ∧ y = .int j ∧ C i j ∧ Q (g i j) h, fun ⟨i, j, a, b, c, q⟩ f => ⟨i, j, a, b, c, f _ _ q⟩⟩
theorem oI_ok {f : Value → Value → Sem Value} {C : Int → Int → Prop} {g : Int → Int → V} {g' : Int → Int → PV} (hr : OpR X f (rI C g)) (hg : ∀ i j w, RV X.K w (g' i j) (g i j)) : OpS X T f (oI C g') := opImp hr fun v u H Q ⟨w, h, x, y, e0, R, r1, r2, i, j, e1, e2, c, q⟩ => by
  subst e0 e1 e2
  rw [RV] at r1 r2
  exact ⟨i, j, r1, r2, c, q w _ R (Wd.Le.refl w) (hg i j w)⟩
theorem oI0_ok {f : Value → Value → Sem Value} {g : Int → Int → V} {g' : Int → Int → PV} (hr : OpR X f (rI0 g)) (hg : ∀ i j w, RV X.K w (g' i j) (g i j)) : OpS X T f (oI (fun _ _ => True) g') := opImp hr fun v u H Q ⟨w, h, x, y, e0, R, r1, r2, i, j, e1, e2, c, q⟩ => by
  subst e0 e1 e2
  rw [RV] at r1 r2
  exact ⟨i, j, r1, r2, q w _ R (Wd.Le.refl w) (hg i j w)⟩
def oSub := oI (fun _ _ => True) fun i j => .int (i - j)
def oMul := oI CMul fun i j => .int (i * j)
def oMod := oI (fun _ j => 0 < j) fun i j => .int (i % j)
def oFdiv := oI CDiv fun i j => .int (i / j)
def oPow := oI CPow fun i j => .int (i ^ j.toNat)
def oLt := oI (fun _ _ => True) fun i j => .bl (decide (i < j))
def oLe := oI (fun _ _ => True) fun i j => .bl (decide (i ≤ j))
def oGt := oI (fun _ _ => True) fun i j => .bl (decide (j < i))
def oGe := oI (fun _ _ => True) fun i j => .bl (decide (j ≤ i))
theorem op_subS : OpS X T (binaryOp .Sub) oSub := oI0_ok op_sub fun _ _ _ => rv_int
theorem op_mulS : OpS X T (binaryOp .Mult) oMul := oI_ok op_mul fun _ _ _ => rv_int
theorem op_modS : OpS X T (binaryOp .Mod) oMod := oI_ok op_mod fun _ _ _ => rv_int
theorem op_fdivS : OpS X T (binaryOp .FloorDiv) oFdiv := oI_ok op_fdiv fun _ _ _ => rv_int
theorem op_powS : OpS X T (binaryOp .Pow) oPow := oI_ok op_pow fun _ _ _ => rv_int
theorem op_ltS : OpS X T (compareOp .Lt) oLt := oI0_ok op_lt fun _ _ _ => rv_bl
theorem op_leS : OpS X T (compareOp .LtE) oLe := oI0_ok op_le fun _ _ _ => rv_bl
theorem op_gtS : OpS X T (compareOp .Gt) oGt := oI0_ok op_gt fun _ _ _ => rv_bl
theorem op_geS : OpS X T (compareOp .GtE) oGe := oI0_ok op_ge fun _ _ _ => rv_bl
/-! ### +, by what the values are -/
theorem opOr {f : Value → Value → Sem Value} {r r' : R2} (h1 : OpR X f r) (h2 : OpR X f r') : OpR X f (fun x y H Q => r x y H Q ∨ r' x y H Q) := fun pins s σ H x y v u Q I rx ry q => q.elim (h1 pins s σ H x y v u Q I rx ry) (h2 pins s σ H x y v u Q I rx ry)
def oAddRun (x y : PV) (h : Hh) (Q : QV) : Prop := match x with
  | .int i => (match y with
    | .int j => Q (.int (i + j)) h
    | _ => False)
  | .str s => (match y with
    | .str t => s.length + t.length ≤ sizeLine ∧ Q (.str (s ++ t)) h
    | _ => False)
  | .tup xs => (match y with
    | .tup ys => xs.length + ys.length ≤ sizeLine ∧ Q (.tup (xs ++ ys)) h
    | _ => False)
  | .loc l => (match y with
    | .loc k => ∃ xs ys, h[l]? = some (.lst xs) ∧ h[k]? = some (.lst ys) ∧ xs.length + ys.length ≤ sizeLine ∧ Q (.loc h.length) (h ++ [.lst (xs ++ ys)])
    | _ => False)
  | _ => False
def oAdd : AO2 := ⟨oAddRun, fun {x y h Q Q'} q f => by
  cases x <;> cases y <;> first | exact q.elim | exact f _ _ q | exact ⟨q.1, f _ _ q.2⟩ | exact (let ⟨xs, ys, a, b, c, q⟩ := q; ⟨xs, ys, a, b, c, f _ _ q⟩)⟩
theorem rCatA_eq : True := trivial
theorem op_addS : OpS X T (binaryOp .Add) oAdd := opImp (opOr op_add (opOr op_add_str (opOr op_catA op_cat))) fun v u H Q ⟨w, h, x, y, e0, R, r1, r2, q⟩ => by
  subst e0
  cases x with
  | int i =>
    cases y with
    | int j =>
      rw [RV] at r1 r2
      exact .inl ⟨_, _, r1, r2, q w _ R (Wd.Le.refl w) rv_int⟩
    | _ => exact q.elim
  | str s =>
    cases y with
    | str t =>
      rw [RV] at r1 r2
      exact .inr (.inl ⟨_, _, r1, r2, q.1, q.2 w _ R (Wd.Le.refl w) (by rw [RV])⟩)
    | _ => exact q.elim
  | tup xs =>
    cases y with
    | tup ys =>
      have f1 := r1
      have f2 := r2
      rw [RV] at r1 r2
      obtain ⟨a, vs, e1, t1, g1⟩ := r1
      obtain ⟨b, us, e2, t2, g2⟩ := r2
      refine .inr (.inr (.inl ⟨a, b, vs, us, e1, e2, t1.sq, t2.sq, by rw [← g1.length, ← g2.length]; exact q.1, fun z => ?_, fun _ z => ?_, fun z1 z2 p hp => ?_⟩))
      · have ex : xs = [] := List.eq_nil_of_length_eq_zero (by rw [g1.length, z]; rfl)
        subst ex
        exact q.2 w _ R (Wd.Le.refl w) (by rw [← e2]; exact f2)
      · have ex : ys = [] := List.eq_nil_of_length_eq_zero (by rw [g2.length, z]; rfl)
        subst ex
        exact q.2 w _ R (Wd.Le.refl w) (by rw [← e1, List.append_nil]; exact f1)
      · obtain ⟨a1, a2, a3⟩ := newTup (T := T) R hp (RVs.append g1 g2)
        exact q.2 _ _ a1 a2 a3
    | _ => exact q.elim
  | loc l =>
    cases y with
    | loc k =>
      obtain ⟨xs, ys, h1, h2, hl, q⟩ := q
      obtain ⟨vs, e1, f1, g1⟩ := at_list R r1 h1
      obtain ⟨us, e2, f2, g2⟩ := at_list R r2 h2
      refine .inr (.inr (.inr ⟨_, _, vs, us, e1, e2, f1, f2, by rw [← g1.length, ← g2.length]; exact hl, fun p hp => ?_⟩))
      obtain ⟨a1, a2, a3⟩ := newLst (T := T) R hp (RVs.append g1 g2)
      exact q _ _ a1 a2 a3
    | _ => exact q.elim
  | _ => exact q.elim
/-- list * int -/
def oRep : AO2 := ⟨fun x y h Q => ∃ l k xs, x = .loc l ∧ y = .int k ∧ h[l]? = some (.lst xs) ∧ -(2 ^ 63) ≤ k ∧ k < 2 ^ 63 ∧ xs.length * k.toNat ≤ sizeLine ∧ Q (.loc h.length) (h ++ [.lst (List.replicate k.toNat xs).flatten]), fun ⟨l, k, xs, a, b, c, d, e, g, q⟩ f => ⟨l, k, xs, a, b, c, d, e, g, f _ _ q⟩⟩
theorem rvs_rep {xs : List PV} {vs : List V} (r : RVs K w xs vs) : ∀ n : Nat, RVs K w (List.replicate n xs).flatten (List.replicate n vs).flatten
  | 0 => RVs.nil
  | n + 1 => by
    rw [List.replicate_succ, List.replicate_succ, List.flatten_cons, List.flatten_cons]
    exact RVs.append r (rvs_rep r n)
theorem op_repS : OpS X T (binaryOp .Mult) oRep := opImp op_rep fun v u H Q ⟨w, h, x, y, e0, R, r1, r2, l, k, xs, e1, e2, h1, b1, b2, b3, q⟩ => by
  subst e0 e1 e2
  obtain ⟨vs, f1, f2, f3⟩ := at_list R r1 h1
  rw [RV] at r2
  refine ⟨_, k, vs, f1, r2, f2, b1, b2, by rw [← f3.length]; exact b3, fun p hp => ?_⟩
  obtain ⟨a1, a2, a3⟩ := newLst (T := T) R hp (rvs_rep f3 k.toNat)
  exact q _ _ a1 a2 a3
/-! ### -n -/
def aNeg (A : AE) : AE := ⟨fun e h Q R => A.run e h (fun x h1 => ∃ i, x = .int i ∧ Q (.int (-i)) h1) R, fun q f g => A.mono q (fun _ _ ⟨i, a, q1⟩ => ⟨i, a, f _ _ q1⟩) g⟩
theorem se_neg {A : AE} (ha : SE X T W a A) : SE X T W (.UnaryOp .USub a pos) (aNeg A) :=
  peImp (pe_un un_neg ha) fun σ H Q ⟨w, env, h, e, R, E, q⟩ => ⟨w, env, h, e, R, E, A.mono q (fun x h1 ⟨i, e1, q1⟩ w1 v1 R1 L1 r1 => by
    subst e1
    rw [RV] at r1
    exact ⟨i, r1, q1 w1 _ R1 L1 rv_int⟩) fun _ _ q1 => q1⟩
/-! ### x[i] -/
theorem atI_rv {xs : List PV} {vs : List V} (r : RVs K w xs vs) {i : Int} {x : PV} (h : atI xs i = some x) : ∃ v, atI vs i = some v ∧ RV K w x v := by
  unfold atI at h ⊢
  rw [← r.length]
  cases e : ixN xs.length i with
  | none => rw [e] at h; cases h
  | some j =>
    rw [e] at h
    exact r.get h
def key? : PV → Option Key
  | .int i => some (.inl i)
  | .str s => some (.inr s)
  | _ => none
def keyPV : Key → PV
  | .inl i => .int i
  | .inr s => .str s
def dk? : PV → Option DK
  | .int i => some (.inl (.inl i))
  | .str s => some (.inl (.inr s))
  | .tup xs => (xs.mapM key?).map .inr
  | _ => none
def dkPV : DK → PV
  | .inl k => keyPV k
  | .inr ks => .tup (ks.map keyPV)
def dLook (kvs : List (DK × PV)) (k : DK) : Option PV := (kvs.find? fun kv => decide (kv.1 = k)).map (·.2)
def dPut (kvs : List (DK × PV)) (k : DK) (v : PV) : List (DK × PV) := if (kvs.any fun kv => decide (kv.1 = k)) = true then kvs.map fun kv => if kv.1 = k then (kv.1, v) else kv else kvs ++ [(k, v)]
end
end PyA
end
section
set_option Elab.async false
set_option linter.all false
set_option maxRecDepth 100000
set_option maxHeartbeats 4000000
/-! PyND: an empty dict may be told either way; rules by values for dicts. -/
namespace PyN
open PySem PySem.Spec PyProof.Rows L2
section
variable {X : Cx} {pins : List (Addr × Obj)} {σ : L2.St} {H : Hp} {s : Shared} {a : Addr}
theorem Inv.castT (I : Inv X pins σ H s) (h : H a = some (.dK [])) : Inv X pins σ (upd H a (.dT [])) s := by
  obtain ⟨_, hs, vs, r, o, es, ep, e1, e2, e3, _, e5, _⟩ := dk_of I.hok h
  have ev : vs = [] := by
    cases r
    rfl
  subst ev
  have ez : es.toList = [] := by
    have z := e5
    cases q : es.toList with
    | nil => rfl
    | cons x r => rw [q] at z; exact absurd z (by intro y; cases y)
  refine I.write (x := a) (e := a) (h' := s.heap) (t' := s.toks) (by rw [h]; exact True.intro) (.inl rfl) (fun b q _ z => z) ⟨o, e1⟩ ?_
  exact ⟨Nat.zero_le _, hs, [], .nil, o, es, ep, e1, e2, e3, by rw [ez]; rfl, by simp⟩
theorem Inv.castK (I : Inv X pins σ H s) (h : H a = some (.dT [])) : Inv X pins σ (upd H a (.dK [])) s := by
  obtain ⟨_, hs, xs, r, o, es, ep, e1, e2, e3, e4, _⟩ := (show ObjOk X.prog X.w H s.heap a (.dT []) from I.hok a _ h)
  have ev : xs = [] := by
    cases r
    rfl
  subst ev
  have ez : es.toList = [] := e4
  refine I.write (x := a) (e := a) (h' := s.heap) (t' := s.toks) (by rw [h]; exact True.intro) (.inl rfl) (fun b q _ z => z) ⟨o, e1⟩ ?_
  have ez2 : es = #[] := by
    cases es
    simpa using ez
  subst ez2
  exact ⟨Nat.zero_le _, hs, [], .nil, o, #[], ep, e1, e2, e3, (fun e he => absurd he (by simp)), .nil, by simp⟩
/-- a reading, perhaps behind such a turn -/
def Cast (P : Hp → Prop) (H : Hp) : Prop := P H ∨ (∃ a, H a = some (.dK []) ∧ P (upd H a (.dT []))) ∨ ∃ a, H a = some (.dT []) ∧ P (upd H a (.dK []))
theorem Cast.go {P : Hp → Prop} (I : Inv X pins σ H s) (c : Cast P H) : ∃ H', Inv X pins σ H' s ∧ P H' := by
  rcases c with c | ⟨a, h, c⟩ | ⟨a, h, c⟩
  · exact ⟨H, I, c⟩
  · exact ⟨_, Inv.castT I h, c⟩
  · exact ⟨_, Inv.castK I h, c⟩
theorem op_inDict (hu : X.A.units + 1 < cLine) : OpR X (compareOp .In) (fun y x H Q => Cast (fun H => ∃ a o, x = .ref a ∧ DGet H a y o ∧ Q (.bl o.isSome) H) H) := by
  intro pins s σ H y x u v Q I ry rx c
  obtain ⟨H', I', a, o, ex, g, q⟩ := c.go I
  subst ex
  cases (show v = Value.ref a from rx)
  exact d_in hu I' g ry fun s' I2 => ⟨.bl _, H', I2, rfl, q⟩
theorem op_notInDict (hu : X.A.units + 1 < cLine) : OpR X (compareOp .NotIn) (fun y x H Q => Cast (fun H => ∃ a o, x = .ref a ∧ DGet H a y o ∧ Q (.bl (!o.isSome)) H) H) := by
  intro pins s σ H y x u v Q I ry rx c
  obtain ⟨H', I', a, o, ex, g, q⟩ := c.go I
  subst ex
  cases (show v = Value.ref a from rx)
  exact d_notIn hu I' g ry fun s' I2 => ⟨.bl _, H', I2, rfl, q⟩
theorem ix_dict (hu : X.A.units + 1 < cLine) : IxR X (fun x y H Q => ∃ a v, x = .ref a ∧ DGet H a y (some v) ∧ Q v H) := by
  intro value slice pins s σ H x y v u Q I rx ry c hs
  obtain ⟨a, z, ex, g, q⟩ := c
  subst ex
  cases (show v = Value.ref a from rx)
  exact tail_any (dict_typeIs I g) PySem.F.slot_dict_getitem.lookup (d_getItem hu I g ry fun w' s' I2 r2 => ⟨z, H, I2, r2, q⟩) hs
theorem set_dict (hu : X.A.units + 1 < cLine) : PSet X (fun o i v H Q => Cast (fun H => ∃ a H', o = .ref a ∧ DPut H a i v H' ∧ Q H') H) := by
  intro pins s σ H o i v ov iv u Q I ro ri rv c
  obtain ⟨H', I', a, H2, ex, g, q⟩ := c.go I
  subst ex
  cases (show ov = Value.ref a from ro)
  exact d_setItem hu I' g ri rv fun s' I2 => ⟨H2, I2, q⟩
theorem mt_get1 (hu : X.A.units + 1 < cLine) : MtR X "dict.get" (fun x vs H Q => Cast (fun H => ∃ a y o, x = .ref a ∧ vs = [y] ∧ DGet H a y o ∧ Q (o.getD .non) H) H) := by
  intro pins s σ H x xs v us Q I rx rxs c
  obtain ⟨H', I', a, y, o, ex, ey, g, q⟩ := c.go I
  subst ex ey
  cases (show v = Value.ref a from rx)
  obtain ⟨u, rfl, ry⟩ := rxs.one
  exact d_get1 hu I' g ry fun w' s' I2 r2 => ⟨_, H', I2, r2, q⟩
theorem mt_get2 (hu : X.A.units + 1 < cLine) : MtR X "dict.get" (fun x vs H Q => Cast (fun H => ∃ a y z o, x = .ref a ∧ vs = [y, z] ∧ DGet H a y o ∧ Q (o.getD z) H) H) := by
  intro pins s σ H x xs v us Q I rx rxs c
  obtain ⟨H', I', a, y, z, o, ex, ey, g, q⟩ := c.go I
  subst ex ey
  cases (show v = Value.ref a from rx)
  cases rxs with
  | cons ry rt =>
    obtain ⟨u, rfl, rz⟩ := Vals.one rt
    exact d_get2 hu I' g ry rz fun w' s' I2 r2 => ⟨_, H', I2, r2, q⟩
end
end PyN
end
section
set_option Elab.async false
set_option linter.all false
set_option maxRecDepth 100000
set_option maxHeartbeats 4000000
/-! PyD: dicts, subscripts, methods of them. -/
namespace PyA
open PySem L2 PySem.Spec PyProof.Rows
section
variable {X : Cx} {T : NTabs} {W : WX} {e a b c : Expr} {pos p : Pos} {K : PySem.W.Frag} {w : Wd} {h : Hh}

/-! ### unions -/
def AO2.or (o o' : AO2) : AO2 := ⟨fun x y h Q => o.run x y h Q ∨ o'.run x y h Q, fun q f => q.elim (fun q => .inl (o.mono q f)) fun q => .inr (o'.mono q f)⟩
theorem OpS.or {f : Value → Value → Sem Value} {o o' : AO2} (h1 : OpS X T f o) (h2 : OpS X T f o') : OpS X T f (o.or o') := opImp (opOr h1 h2) fun x y H Q ⟨w, h, x', y', e, R, r1, r2, q⟩ => q.elim (fun q => .inl ⟨w, h, x', y', e, R, r1, r2, q⟩) fun q => .inr ⟨w, h, x', y', e, R, r1, r2, q⟩
def AON.or (o o' : AON) : AON := ⟨fun x h Q => o.run x h Q ∨ o'.run x h Q, fun q f => q.elim (fun q => .inl (o.mono q f)) fun q => .inr (o'.mono q f)⟩
theorem CaS.or {f : Value} {o o' : AON} (h1 : CaS X T f o) (h2 : CaS X T f o') : CaS X T f (o.or o') := callImp (CallR.or h1 h2) fun x H Q ⟨w, h, x', e, R, r1, q⟩ => q.elim (fun q => .inl ⟨w, h, x', e, R, r1, q⟩) fun q => .inr ⟨w, h, x', e, R, r1, q⟩

/-! ### keys -/
theorem rv_key {k : Key} {x : PV} {v : V} (e : key? x = some k) (r : RV K w x v) : v = kV k := by
  cases x with
  | int i => cases e; rw [RV] at r; exact r
  | str i => cases e; rw [RV] at r; exact r
  | _ => cases e
theorem rvs_keys : ∀ {xs : List PV} {ks : List Key} {vs : List V}, xs.mapM key? = some ks → RVs K w xs vs → vs = ks.map kV
  | [], ks, vs, e, r => by
    cases e
    rw [RVs] at r
    exact r
  | x :: xs, ks, vs, e, r => by
    obtain ⟨k, t, e1, e2, e3⟩ := mapM_cons e
    rw [RVs] at r
    obtain ⟨v, u, f1, f2, f3⟩ := r
    subst e3 f1
    rw [rv_key e1 f2, rvs_keys e2 f3]
    rfl
theorem rv_dkL {k : Key} {x : PV} {v : V} (e : dk? x = some (.inl k)) (r : RV K w x v) : v = kV k := by
  cases x with
  | int i => cases e; rw [RV] at r; exact r
  | str i => cases e; rw [RV] at r; exact r
  | tup xs =>
    obtain ⟨ks, _, e2⟩ := Option.map_eq_some_iff.mp (show (xs.mapM key?).map Sum.inr = some (Sum.inl k) from e)
    cases e2
  | _ => cases e
theorem rv_dkR {ks : List Key} {x : PV} {v : V} (e : dk? x = some (.inr ks)) (r : RV K w x v) : ∃ b, v = .ref b ∧ w.Off b ∧ w.H b = some (.tup (ks.map kV)) := by
  cases x with
  | tup xs =>
    obtain ⟨ks', e1, e2⟩ := Option.map_eq_some_iff.mp (show (xs.mapM key?).map Sum.inr = some (Sum.inr ks) from e)
    cases e2
    rw [RV] at r
    obtain ⟨a, vs, f1, f2, f3⟩ := r
    exact ⟨a, f1, f2.1, by rw [f2.2, rvs_keys e1 f3]⟩
  | _ => cases e
/-! ### the pairs -/
section
variable {κ : Type} [DecidableEq κ] {f : κ → DK} (hf : ∀ a b, f a = f b → a = b)
theorem KVs.length {κ : Type} {f : κ → DK} : ∀ {kvs : List (DK × PV)} {ys : List (κ × V)}, KVs K w f kvs ys → kvs.length = ys.length
  | [], _, h => by cases (show _ = _ from h); rfl
  | p :: r, _, h => by
    obtain ⟨k, v, t, e, _, _, h2⟩ := h
    rw [e, List.length_cons, List.length_cons, KVs.length h2]
theorem KVs.get {κ : Type} {f : κ → DK} : ∀ {kvs : List (DK × PV)} {ys : List (κ × V)} {i : Nat} {p : DK × PV}, KVs K w f kvs ys → kvs[i]? = some p → ∃ k v, ys[i]? = some (k, v) ∧ p.1 = f k ∧ RV K w p.2 v
  | [], _, _, _, _, e => by simp at e
  | q :: r, _, 0, p, h, e => by
    obtain ⟨k, v, t, e1, e2, e3, _⟩ := h
    simp at e
    subst e e1
    exact ⟨k, v, rfl, e2, e3⟩
  | q :: r, _, i + 1, p, h, e => by
    obtain ⟨k, v, t, e1, e2, e3, h2⟩ := h
    subst e1
    obtain ⟨k', v', a, b⟩ := KVs.get (i := i) (p := p) h2 (by simpa using e)
    exact ⟨k', v', by simpa using a, b⟩
include hf
theorem KVs.look : ∀ {kvs : List (DK × PV)} {ys : List (κ × V)}, KVs K w f kvs ys → ∀ k, (∃ x v, dLook kvs (f k) = some x ∧ valV ys k = some v ∧ RV K w x v) ∨ (dLook kvs (f k) = none ∧ valV ys k = none)
  | [], _, h, k => by cases (show _ = _ from h); exact .inr ⟨rfl, rfl⟩
  | p :: r, _, h, k => by
    obtain ⟨k', v, t, e, e1, h1, h2⟩ := h
    subst e
    by_cases q : k' = k
    · subst q
      exact .inl ⟨p.2, v, by simp [dLook, List.find?_cons, e1], valV_pos rfl, h1⟩
    · have n1 : ¬ p.1 = f k := fun z => q (hf _ _ (e1.symm.trans z))
      have l1 : dLook (p :: r) (f k) = dLook r (f k) := by simp [dLook, List.find?_cons, n1]
      rw [l1, valV_neg q]
      exact KVs.look h2 k
theorem KVs.any : ∀ {kvs : List (DK × PV)} {ys : List (κ × V)}, KVs K w f kvs ys → ∀ k, (kvs.any fun kv => decide (kv.1 = f k)) = ys.any fun kv => decide (kv.1 = k)
  | [], _, h, k => by cases (show _ = _ from h); rfl
  | p :: r, _, h, k => by
    obtain ⟨k', v, t, e, e1, h1, h2⟩ := h
    subst e
    rw [List.any_cons, List.any_cons, KVs.any h2 k, e1]
    congr 1
    exact decide_eq_decide.mpr ⟨fun z => hf _ _ z, fun z => by rw [show k' = k from z]⟩
theorem KVs.repl : ∀ {kvs : List (DK × PV)} {ys : List (κ × V)}, KVs K w f kvs ys → ∀ k {x : PV} {v : V}, RV K w x v → KVs K w f (kvs.map fun kv => if kv.1 = f k then (kv.1, x) else kv) (ys.map fun kv => if kv.1 = k then (kv.1, v) else kv)
  | [], _, h, k, x, v, r => by cases (show _ = _ from h); exact rfl
  | p :: t, _, h, k, x, v, r => by
    obtain ⟨k', u, t', e, e1, h1, h2⟩ := h
    subst e
    rw [List.map_cons, List.map_cons]
    by_cases q : k' = k
    · subst q
      rw [if_pos e1, if_pos rfl]
      exact ⟨k', v, _, rfl, e1, r, KVs.repl h2 k' r⟩
    · rw [if_neg (fun z => q (hf _ _ (e1.symm.trans z))), if_neg q]
      exact ⟨k', u, _, rfl, e1, h1, KVs.repl h2 k r⟩
theorem KVs.put {kvs : List (DK × PV)} {ys : List (κ × V)} (h : KVs K w f kvs ys) (k : κ) {x : PV} {v : V} (r : RV K w x v) : KVs K w f (dPut kvs (f k) x) (putK ys k v) := by
  unfold dPut putK
  rw [KVs.any hf h k]
  split
  · exact KVs.repl hf h k r
  · have app : ∀ {kvs : List (DK × PV)} {ys : List (κ × V)}, KVs K w f kvs ys → KVs K w f (kvs ++ [(f k, x)]) (ys ++ [(k, v)]) := by
      intro kvs
      induction kvs with
      | nil => intro ys h; cases (show _ = _ from h); exact ⟨k, v, [], rfl, rfl, r, rfl⟩
      | cons p t ih =>
        intro ys h
        obtain ⟨k', u, t', e, e1, h1, h2⟩ := h
        subst e
        exact ⟨k', u, _, rfl, e1, h1, ih h2⟩
    exact app h
end
theorem inlI : ∀ a b : Key, (Sum.inl a : DK) = Sum.inl b → a = b := fun _ _ e => Sum.inl.inj e
theorem inrI : ∀ a b : List Key, (Sum.inr a : DK) = Sum.inr b → a = b := fun _ _ e => Sum.inr.inj e
/-- the dict's keys are of that kind -/
def Kind (kvs : List (DK × PV)) (k : DK) : Prop := ∀ q ∈ kvs, q.1.isLeft = k.isLeft
/-- a dict's object, told for keys of the kind of k -/
theorem dic_kind {kvs : List (DK × PV)} {k : DK} {o : HO} (d : DicR K w kvs o) (kd : Kind kvs k) :
    (o = .dK [] ∧ kvs = [] ∧ k.isLeft = false) ∨ (o = .dT [] ∧ kvs = [] ∧ k.isLeft = true) ∨ (k.isLeft = true ∧ ∃ ys, o = .dK ys ∧ KVs K w Sum.inl kvs ys) ∨ (k.isLeft = false ∧ ∃ ys, o = .dT ys ∧ KVs K w Sum.inr kvs ys) := by
  rcases d with ⟨ys, e, d⟩ | ⟨ys, e, d⟩
  · cases kvs with
    | nil =>
      cases (show ys = [] from d)
      cases q : k.isLeft with
      | true => exact .inr (.inr (.inl ⟨rfl, [], e, rfl⟩))
      | false => exact .inl ⟨e, rfl, rfl⟩
    | cons q r =>
      have z := kd q List.mem_cons_self
      have d' := d
      obtain ⟨k', v, t, e1, e2, _⟩ := d'
      rw [e2] at z
      exact .inr (.inr (.inl ⟨z.symm, ys, e, d⟩))
  · cases kvs with
    | nil =>
      cases (show ys = [] from d)
      cases q : k.isLeft with
      | true => exact .inr (.inl ⟨e, rfl, rfl⟩)
      | false => exact .inr (.inr (.inr ⟨rfl, [], e, rfl⟩))
    | cons q r =>
      have z := kd q List.mem_cons_self
      have d' := d
      obtain ⟨k', v, t, e1, e2, _⟩ := d'
      rw [e2] at z
      exact .inr (.inr (.inr ⟨z.symm, ys, e, d⟩))
def RO (K : PySem.W.Frag) (w : Wd) (x : Option PV) (v : Option V) : Prop := (∃ y u, x = some y ∧ v = some u ∧ RV K w y u) ∨ (x = none ∧ v = none)
/-- the empty dict, told the other way -/
theorem recast {R : Rel K T w h} {l : Nat} {o o' : HO} (hl : h[l]? = some (.dic false [])) (e : w.H (w.m l) = some o) (nf : ∀ od u, o ≠ .frz od u) (d' : ∀ w, DicR K w [] o') :
    Rel K T (w.put l o') h ∧ w.Le (w.put l o') ∧ (w.put l o').H (w.m l) = some o' := by
  have hi : l < w.n := by rw [R.len]; exact (List.getElem?_eq_some_iff.mp hl).1
  have nf' : ∀ od u, w.H (w.m l) ≠ some (.frz od u) := fun od u z => nf od u (by rw [e] at z; exact Option.some.inj z)
  have P := R.put (o := o') hi nf' (c := .dic false []) ⟨o', upd_same, d' _⟩
  have es : h.set l (.dic false []) = h := by
    obtain ⟨h1, h2⟩ := List.getElem?_eq_some_iff.mp hl
    rw [← h2]
    exact List.set_getElem_self h1
  rw [es] at P
  exact ⟨P, R.le_put hi nf', upd_same⟩
/-- d[k], k in d: the dict at l, unlocked -/
theorem dget_at (R : Rel K T w h) {l : Nat} {kvs : List (DK × PV)} {k : DK} {x : PV} {v vl : V} (hl : h[l]? = some (.dic false kvs)) (hk : dk? x = some k) (kd : Kind kvs k) (rl : RV K w (.loc l) vl) (r : RV K w x v) :
    ∃ a, vl = .ref a ∧ ∀ {P : Hp → Prop}, (∀ w', Rel K T w' h → w.Le w' → (∃ o, DGet w'.H a v o ∧ RO K w' (dLook kvs k) o) → P w'.H) → PyN.Cast P w.H := by
  rw [RV] at rl
  refine ⟨w.m l, rl.2, fun {P} f => ?_⟩
  obtain ⟨o, ho, d⟩ := R.cell _ _ hl
  rcases dic_kind d kd with ⟨e, e1, e2⟩ | ⟨e, e1, e2⟩ | ⟨e2, ys, e, d2⟩ | ⟨e2, ys, e, d2⟩
  · subst e e1
    obtain ⟨a1, a2, a3⟩ := recast (R := R) (o' := .dT []) hl ho (fun _ _ z => by cases z) (fun w => .inr ⟨[], rfl, rfl⟩)
    refine .inr (.inl ⟨w.m l, ho, f _ a1 a2 ⟨none, ?_, .inr ⟨rfl, rfl⟩⟩⟩)
    cases k with
    | inl k => cases e2
    | inr ks =>
      obtain ⟨b, f1, f2, f3⟩ := rv_dkR hk (r.to a2)
      exact .inr ⟨[], ks, b, .inl a3, f1, f3, rfl⟩
  · subst e e1
    obtain ⟨a1, a2, a3⟩ := recast (R := R) (o' := .dK []) hl ho (fun _ _ z => by cases z) (fun w => .inl ⟨[], rfl, rfl⟩)
    refine .inr (.inr ⟨w.m l, ho, f _ a1 a2 ⟨none, ?_, .inr ⟨rfl, rfl⟩⟩⟩)
    cases k with
    | inl k => exact .inl ⟨[], k, .inl a3, rv_dkL hk r, rfl⟩
    | inr ks => cases e2
  · subst e
    cases k with
    | inr ks => cases e2
    | inl k => exact .inl (f w R (Wd.Le.refl w) ⟨_, .inl ⟨ys, k, .inl ho, rv_dkL hk r, rfl⟩, KVs.look inlI d2 k⟩)
  · subst e
    cases k with
    | inl k => cases e2
    | inr ks =>
      obtain ⟨b, f1, f2, f3⟩ := rv_dkR hk r
      exact .inl (f w R (Wd.Le.refl w) ⟨_, .inr ⟨ys, ks, b, .inl ho, f1, f3, rfl⟩, KVs.look inrI d2 ks⟩)
/-- d[k], whether locked or not -/
theorem dget_some (R : Rel K T w h) {l : Nat} {lk : Bool} {kvs : List (DK × PV)} {k : DK} {x y : PV} {v vl : V} (hl : h[l]? = some (.dic lk kvs)) (hk : dk? x = some k) (kd : Kind kvs k) (hy : dLook kvs k = some y) (rl : RV K w (.loc l) vl) (r : RV K w x v) :
    ∃ a u, vl = .ref a ∧ DGet w.H a v (some u) ∧ RV K w y u := by
  rw [RV] at rl
  have go : ∀ {o}, Rd w.H (w.m l) o → DicR K w kvs o → ∃ a u, vl = .ref a ∧ DGet w.H a v (some u) ∧ RV K w y u := by
    intro o ho d
    rcases dic_kind d kd with ⟨e, e1, e2⟩ | ⟨e, e1, e2⟩ | ⟨e2, ys, e, d2⟩ | ⟨e2, ys, e, d2⟩
    · subst e1; cases hy
    · subst e1; cases hy
    · subst e
      cases k with
      | inr ks => cases e2
      | inl k =>
        rcases KVs.look inlI d2 k with ⟨x', u, f1, f2, f3⟩ | ⟨f1, f2⟩
        · rw [f1] at hy
          cases hy
          exact ⟨_, u, rl.2, .inl ⟨ys, k, ho, rv_dkL hk r, f2.symm⟩, f3⟩
        · rw [f1] at hy; cases hy
    · subst e
      cases k with
      | inl k => cases e2
      | inr ks =>
        obtain ⟨b, g1, g2, g3⟩ := rv_dkR hk r
        rcases KVs.look inrI d2 ks with ⟨x', u, f1, f2, f3⟩ | ⟨f1, f2⟩
        · rw [f1] at hy
          cases hy
          exact ⟨_, u, rl.2, .inr ⟨ys, ks, b, ho, g1, g3, f2.symm⟩, f3⟩
        · rw [f1] at hy; cases hy
  cases lk with
  | false =>
    obtain ⟨o, ho, d⟩ := R.cell _ _ hl
    exact go (.inl ho) d
  | true =>
    obtain ⟨od, o, ho, d⟩ := R.cell _ _ hl
    exact go (.inr ⟨od, ho⟩) d
def oInD : AO2 := ⟨fun x y h Q => ∃ l kvs k, y = .loc l ∧ h[l]? = some (.dic false kvs) ∧ dk? x = some k ∧ Kind kvs k ∧ Q (.bl (dLook kvs k).isSome) h, fun ⟨l, kvs, k, a, b, c, d, q⟩ f => ⟨l, kvs, k, a, b, c, d, f _ _ q⟩⟩
def oNotInD : AO2 := ⟨fun x y h Q => ∃ l kvs k, y = .loc l ∧ h[l]? = some (.dic false kvs) ∧ dk? x = some k ∧ Kind kvs k ∧ Q (.bl (!(dLook kvs k).isSome)) h, fun ⟨l, kvs, k, a, b, c, d, q⟩ f => ⟨l, kvs, k, a, b, c, d, f _ _ q⟩⟩
theorem RO.some_eq {x : Option PV} {v : Option V} (r : RO K w x v) : v.isSome = x.isSome := by
  rcases r with ⟨y, u, e1, e2, _⟩ | ⟨e1, e2⟩ <;> (subst e1 e2; rfl)
theorem RO.getD {x : Option PV} {v : Option V} (r : RO K w x v) {y : PV} {u : V} (r2 : RV K w y u) : RV K w (x.getD y) (v.getD u) := by
  rcases r with ⟨y, u, e1, e2, r⟩ | ⟨e1, e2⟩
  · subst e1 e2; exact r
  · subst e1 e2; exact r2
theorem op_inDS (hu : X.A.units + 1 < cLine) : OpS X T (compareOp .In) oInD := opImp (PyN.op_inDict hu) fun v u H Q ⟨w, h, x, y, e0, R, r1, r2, l, kvs, k, e1, h1, h2, h3, q⟩ => by
  subst e0 e1
  obtain ⟨a, ea, F⟩ := dget_at R h1 h2 h3 r2 r1
  exact F fun w' R' L' ⟨o, g, ro⟩ => ⟨a, o, ea, g, by rw [ro.some_eq]; exact q w' _ R' L' rv_bl⟩
theorem op_notInDS (hu : X.A.units + 1 < cLine) : OpS X T (compareOp .NotIn) oNotInD := opImp (PyN.op_notInDict hu) fun v u H Q ⟨w, h, x, y, e0, R, r1, r2, l, kvs, k, e1, h1, h2, h3, q⟩ => by
  subst e0 e1
  obtain ⟨a, ea, F⟩ := dget_at R h1 h2 h3 r2 r1
  exact F fun w' R' L' ⟨o, g, ro⟩ => ⟨a, o, ea, g, by rw [ro.some_eq]; exact q w' _ R' L' rv_bl⟩
/-! ### in: the list or tuple of flat things (no depth) and the dict -/
def oInAll : AO2 := oIn.or oInD
def oNotInAll : AO2 := oNotIn.or oNotInD
theorem op_inAllS (hu : X.A.units + 65 < cLine) : OpS X T (compareOp .In) oInAll := OpS.or (op_inS hu) (op_inDS (by omega))
theorem op_notInAllS (hu : X.A.units + 65 < cLine) : OpS X T (compareOp .NotIn) oNotInAll := OpS.or (op_notInS hu) (op_notInDS (by omega))
def oMulAll : AO2 := oMul.or oRep
theorem op_mulAllS : OpS X T (binaryOp .Mult) oMulAll := OpS.or op_mulS op_repS
/-! ### subscripts -/
def oIxRun (x y : PV) (h : Hh) (Q : QV) : Prop := match x with
  | .tup xs => ∃ i v, y = .int i ∧ atI xs i = some v ∧ Q v h
  | .fls xs => ∃ i v, y = .int i ∧ atI xs i = some v ∧ Q v h
  | .str z => ∃ i c, y = .int i ∧ z.length ≤ sizeLine ∧ atI z.cps.toList i = some c ∧ Q (.str ⟨#[c]⟩) h
  | .loc l => (∃ xs i v, h[l]? = some (.lst xs) ∧ y = .int i ∧ atI xs i = some v ∧ Q v h) ∨ ∃ lk kvs k v, h[l]? = some (.dic lk kvs) ∧ dk? y = some k ∧ Kind kvs k ∧ dLook kvs k = some v ∧ Q v h
  | _ => False
def oIx : AO2 := ⟨oIxRun, fun {x y h Q Q'} q f => by
  cases x with
  | tup xs => obtain ⟨i, v, a, b, q⟩ := q; exact ⟨i, v, a, b, f _ _ q⟩
  | fls xs => obtain ⟨i, v, a, b, q⟩ := q; exact ⟨i, v, a, b, f _ _ q⟩
  | str xs => obtain ⟨i, v, a, b, c, q⟩ := q; exact ⟨i, v, a, b, c, f _ _ q⟩
  | loc l => exact q.elim (fun ⟨xs, i, v, a, b, c, q⟩ => .inl ⟨xs, i, v, a, b, c, f _ _ q⟩) fun ⟨lk, kvs, k, v, a, b, c, d, q⟩ => .inr ⟨lk, kvs, k, v, a, b, c, d, f _ _ q⟩
  | _ => exact q.elim⟩
theorem ix_all (hu : X.A.units + 1 < cLine) : IxR X (tO2 X.K T oIx) := fun value slice pins s σ H x y v u Q I rx ry q hs => by
  have J := IxR.or (X := X) ix_seq (PyN.ix_dict hu)
  refine J value slice pins s σ H x y v u Q I rx ry ?_ hs
  obtain ⟨w, h, x', y', e0, R, r1, r2, q⟩ := q
  subst e0
  cases x' with
  | tup xs =>
    obtain ⟨i, z, e1, e2, q⟩ := q
    subst e1
    rw [RV] at r1
    rw [RV] at r2
    obtain ⟨a, vs, f1, f2, f3⟩ := r1
    obtain ⟨zv, g1, g2⟩ := atI_rv f3 e2
    exact .inl (.inr (.inl ⟨a, vs, i, zv, f1, r2, f2.sq, g1, q w zv R (Wd.Le.refl w) g2⟩))
  | fls xs =>
    obtain ⟨i, z, e1, e2, q⟩ := q
    subst e1
    rw [RV] at r1
    rw [RV] at r2
    obtain ⟨a, vs, f1, f2, f3⟩ := r1
    obtain ⟨zv, g1, g2⟩ := atI_rv f3 e2
    exact .inl (.inl ⟨a, vs, i, zv, f1, r2, f2.sq, g1, q w zv R (Wd.Le.refl w) g2⟩)
  | str z =>
    obtain ⟨i, c, e1, e2, e3, q⟩ := q
    subst e1
    rw [RV] at r1
    rw [RV] at r2
    exact .inl (.inr (.inr ⟨z, i, c, r1, r2, e2, e3, q w _ R (Wd.Le.refl w) (by rw [RV])⟩))
  | loc l =>
    rcases q with ⟨xs, i, z, hl, e1, e2, q⟩ | ⟨lk, kvs, k, z, hl, hk, kd, hz, q⟩
    · subst e1
      rw [RV] at r2
      obtain ⟨vs, f1, f2, f3⟩ := at_list R r1 hl
      obtain ⟨zv, g1, g2⟩ := atI_rv f3 e2
      exact .inl (.inl ⟨_, vs, i, zv, f1, r2, .of f2, g1, q w zv R (Wd.Le.refl w) g2⟩)
    · obtain ⟨a, zv, f1, f2, f3⟩ := dget_some R hl hk kd hz r1 r2
      exact .inr ⟨a, zv, f1, f2, q w zv R (Wd.Le.refl w) f3⟩
  | _ => exact q.elim
theorem se_ix {A B : AE} (hu : X.A.units + 1 < cLine) (ha : SE X T W a A) (hb : SE X T W b B) (hs : PlainIx b := by intro _ _; rfl) : SE X T W (.Subscript a b pos) (aO2 oIx A B) := peImp (pe_ix (ix_all (T := T) hu) ha hb hs) fun _ _ _ q => o2_of q
/-! ### o[i] = v -/
theorem psetOr {t t' : TSet} (h1 : PSet X t) (h2 : PSet X t') : PSet X (fun o i v H Q => t o i v H Q ∨ t' o i v H Q) := fun pins s σ H o i v ov iv u Q I r1 r2 r3 q => q.elim (h1 pins s σ H o i v ov iv u Q I r1 r2 r3) (h2 pins s σ H o i v ov iv u Q I r1 r2 r3)
def o3Ix : AO3 := ⟨fun x y z h Q => ∃ l, x = .loc l ∧ ((∃ xs i j, h[l]? = some (.lst xs) ∧ y = .int i ∧ ixN xs.length i = some j ∧ Q (h.set l (.lst (xs.set j z)))) ∨
    ∃ kvs k, h[l]? = some (.dic false kvs) ∧ dk? y = some k ∧ Kind kvs k ∧ kvs.length < sizeLine ∧ Q (h.set l (.dic false (dPut kvs k z)))),
  fun ⟨l, e, q⟩ f => ⟨l, e, q.elim (fun ⟨xs, i, j, a, b, c, q⟩ => .inl ⟨xs, i, j, a, b, c, f _ q⟩) fun ⟨kvs, k, a, b, c, d, q⟩ => .inr ⟨kvs, k, a, b, c, d, f _ q⟩⟩⟩
/-- a dict is written: what its object becomes -/
theorem dput_at (R : Rel K T w h) {l : Nat} {kvs : List (DK × PV)} {k : DK} {x z : PV} {v vl zv : V} (hl : h[l]? = some (.dic false kvs)) (hk : dk? x = some k) (kd : Kind kvs k) (hz : kvs.length < sizeLine) (rl : RV K w (.loc l) vl) (r : RV K w x v) (rz : RV K w z zv) :
    ∃ a, vl = .ref a ∧ ∀ {P : Hp → Prop}, (∀ w' H', w'.H = H' → Rel K T w' (h.set l (.dic false (dPut kvs k z))) → w.Le w' → P H') → PyN.Cast (fun H => ∃ H', DPut H a v zv H' ∧ P H') w.H := by
  have rl0 := rl
  rw [RV] at rl
  refine ⟨w.m l, rl.2, fun {P} f => ?_⟩
  obtain ⟨o, ho, d⟩ := R.cell _ _ hl
  have fin : ∀ (w1 : Wd) (o1 o2 : HO), Rel K T w1 h → w.Le w1 → w1.m l = w.m l → w1.n = w.n → w1.H (w.m l) = some o1 → (∀ od u, o1 ≠ .frz od u) → (∀ w2, w1.Le w2 → DicR K w2 (dPut kvs k z) o2) → P (upd w1.H (w.m l) o2) := by
    intro w1 o1 o2 R1 L1 em en h1 nf d2
    have hi : l < w1.n := by rw [en]; exact rl.1
    have nf' : ∀ od u, w1.H (w1.m l) ≠ some (.frz od u) := fun od u q => nf od u (by rw [em, h1] at q; exact Option.some.inj q)
    have LP := R1.le_put (o := o2) hi nf'
    have P1 := R1.put (o := o2) hi nf' (c := .dic false (dPut kvs k z)) ⟨o2, upd_same, d2 _ LP⟩
    refine f (w1.put l o2) _ ?_ P1 (L1.trans LP)
    show upd w1.H (w1.m l) o2 = _
    rw [em]
  rcases dic_kind d kd with ⟨e, e1, e2⟩ | ⟨e, e1, e2⟩ | ⟨e2, ys, e, d2⟩ | ⟨e2, ys, e, d2⟩
  · subst e e1
    obtain ⟨a1, a2, a3⟩ := recast (R := R) (o' := .dT []) hl ho (fun _ _ z => by cases z) (fun w => .inr ⟨[], rfl, rfl⟩)
    cases k with
    | inl k => cases e2
    | inr ks =>
      obtain ⟨b, f1, f2, f3⟩ := rv_dkR hk (r.to a2)
      refine .inr (.inl ⟨w.m l, ho, _, .inr ⟨[], ks, b, a3, f1, f3, hz, rfl⟩, ?_⟩)
      exact fin _ (.dT []) _ a1 a2 rfl rfl a3 (fun _ _ z => by cases z) fun w2 L2 => .inr ⟨_, rfl, KVs.put inrI (kvs := []) (ys := []) rfl ks (rz.to (a2.trans L2))⟩
  · subst e e1
    obtain ⟨a1, a2, a3⟩ := recast (R := R) (o' := .dK []) hl ho (fun _ _ z => by cases z) (fun w => .inl ⟨[], rfl, rfl⟩)
    cases k with
    | inr k => cases e2
    | inl k =>
      refine .inr (.inr ⟨w.m l, ho, _, .inl ⟨[], k, a3, rv_dkL hk r, hz, rfl⟩, ?_⟩)
      exact fin _ (.dK []) _ a1 a2 rfl rfl a3 (fun _ _ z => by cases z) fun w2 L2 => .inl ⟨_, rfl, KVs.put inlI (kvs := []) (ys := []) rfl k (rz.to (a2.trans L2))⟩
  · subst e
    cases k with
    | inr ks => cases e2
    | inl k =>
      refine .inl ⟨_, .inl ⟨ys, k, ho, rv_dkL hk r, by rw [← d2.length]; exact hz, rfl⟩, ?_⟩
      exact fin w (.dK ys) _ R (Wd.Le.refl w) rfl rfl ho (fun _ _ z => by cases z) fun w2 L2 => .inl ⟨_, rfl, KVs.put inlI (d2.to L2) k (rz.to L2)⟩
  · subst e
    cases k with
    | inl k => cases e2
    | inr ks =>
      obtain ⟨b, f1, f2, f3⟩ := rv_dkR hk r
      refine .inl ⟨_, .inr ⟨ys, ks, b, ho, f1, f3, by rw [← d2.length]; exact hz, rfl⟩, ?_⟩
      exact fin w (.dT ys) _ R (Wd.Le.refl w) rfl rfl ho (fun _ _ z => by cases z) fun w2 L2 => .inr ⟨_, rfl, KVs.put inrI (d2.to L2) ks (rz.to L2)⟩
theorem set_all (hu : X.A.units + 1 < cLine) : SetS X T o3Ix := fun pins s σ H o i v ov iv u Q I r1 r2 r3 q => by
  refine psetOr (X := X) set_list (PyN.set_dict hu) pins s σ H o i v ov iv u Q I r1 r2 r3 ?_
  obtain ⟨w, h, x, y, z, e0, R, q1, q2, q3, l, e1, q⟩ := q
  subst e0 e1
  rcases q with ⟨xs, k, j, hl, e2, hj, q⟩ | ⟨kvs, k, hl, hk, kd, hz, q⟩
  · subst e2
    obtain ⟨vs, f1, f2, f3⟩ := at_list R q1 hl
    rw [RV] at q1
    rw [RV] at q2
    have nf : ∀ od u, w.H (w.m l) ≠ some (.frz od u) := fun od u z => by rw [f2] at z; cases z
    have LP := R.le_put (o := .lst (vs.set j v)) q1.1 nf
    have P := R.put (o := .lst (vs.set j v)) q1.1 nf (c := .lst (xs.set j z)) ⟨_, upd_same, (RVs.set q3 j f3).to LP⟩
    exact .inl ⟨_, vs, k, j, f1, q2, f2, by rw [← f3.length]; exact hj, q _ P LP⟩
  · obtain ⟨a, ea, F⟩ := dput_at R hl hk kd hz q1 q2 q3
    right
    have F' := F (P := Q) fun w' H' e R' L' => e ▸ q w' R' L'
    rcases F' with ⟨H', g, q'⟩ | ⟨b, hb, H', g, q'⟩ | ⟨b, hb, H', g, q'⟩
    · exact .inl ⟨a, H', ea, g, q'⟩
    · exact .inr (.inl ⟨b, hb, a, H', ea, g, q'⟩)
    · exact .inr (.inr ⟨b, hb, a, H', ea, g, q'⟩)
def gIx (A B : AE) : AG := ⟨fun v e h Q => A.run e h (fun x h1 => B.run e h1 (fun y h2 => o3Ix.run x y v h2 (Q e)) (fun _ _ => False)) (fun _ _ => False), fun q f => A.mono q (fun _ _ q1 => B.mono q1 (fun _ _ q2 => o3Ix.mono q2 (f _)) fun _ _ z => z) fun _ _ z => z⟩
theorem sg_ix {S : List Nat} {A B : AE} (hu : X.A.units + 1 < cLine) (ha : SE X T WN a A) (hb : SE X T WN b B) (hh : ∀ v, assign (.Subscript a b pos) X.env v = (do
      let ov ← holding [v] (eval a X.env)
      let iv ← holding [v, ov] (eval b X.env)
      standAt pos
      holding [v, ov, iv] (setItem ov iv v)
      release [v, ov, iv] []) := by intro _; rfl) : SG X T S (.Subscript a b pos) (gIx A B) :=
  pgImp (pg_sub ha hb (set_all (T := T) hu) hh) fun v σ H Q ⟨w, env, h, x, e, R, E, r, q⟩ =>
    ⟨w, env, h, e, R, E, A.mono q (fun y h1 q1 w1 v1 R1 L1 r1 => ⟨w1, env, h1, rfl, R1, E.to L1, B.mono q1 (fun z h2 q2 w2 v2 R2 L2 r2 => ⟨w2, h2, y, z, x, rfl, R2, r1.to L2, r2, r.to (L1.trans L2), o3Ix.mono q2 fun h3 q3 w3 R3 L3 => q3 w3 σ R3 (L1.trans (L2.trans L3)) (E.to (L1.trans (L2.trans L3))) (slots_refl σ)⟩) fun _ _ z => z.elim⟩) fun _ _ z => z.elim⟩
end
end PyA
end
section
set_option Elab.async false
set_option linter.all false
set_option maxRecDepth 100000
set_option maxHeartbeats 4000000
/-! PyE: methods, locks, walks over dicts, dict displays and comprehensions. -/
namespace PyN
open PySem PySem.Spec PyProof.Rows L2
section
variable {X : Cx}
theorem mt_setd : MtR X "dict.setdefault" (fun x vs H Q => Cast (fun H => ∃ a y z kvs k, x = .ref a ∧ vs = [y, z] ∧ H a = some (.dK kvs) ∧ y = kV k ∧ kvs.length < sizeLine ∧
    (∀ v, valV kvs k = some v → Q v H) ∧ (valV kvs k = none → Q z (upd H a (.dK (putK kvs k z))))) H) := by
  intro pins s σ H x xs v us Q I rx rxs c
  obtain ⟨H', I', a, y, z, kvs, k, ex, ey, e, ek, hl, h1, h2⟩ := c.go I
  subst ex ey ek
  cases (show v = Value.ref a from rx)
  cases rxs with
  | cons ry rt =>
    obtain ⟨u, rfl, rz⟩ := Vals.one rt
    exact d_setd I' e ry rz hl (fun v hv w' s' I2 r2 => ⟨v, H', I2, r2, h1 v hv⟩) fun hn w' s' I2 r2 => ⟨_, _, I2, r2, h2 hn⟩
theorem ps_setDc {i : Nat} {y : Str} {py : Pos} {kx vx tg iter : Expr} {ifs : List Expr} {scope : Scope} {own : List (Str × Nat)} {pos spos : Pos} {wi : TI} {g : TG} {tt : TT} {tk tv : TE} (hc : X.calm = true) (hN : X.N.Nodup) (hy : X.N[i]? = some y) (hyl : X.env.scope.names.lookup y = some .local)
    (hsw : swapsWith (.DictComp kx vx [⟨tg, iter, ifs, 0⟩] scope pos) (some (.Name y py)) spos.line X.env = pure true) (hi : PI X tg iter wi) (ok : BlkOk X.N X.env.scope scope own)
    (hg : ∀ (s : Shared) (H : Hp) (C : Addr) (cl : List (Str × Addr)) (fp : List Addr), PG (X.blk s H scope (compEnvC scope cl C X.env) fp) tg g) (ht : ∀ (s : Shared) (H : Hp) (C : Addr) (cl : List (Str × Addr)) (fp : List Addr), PTs (X.blk s H scope (compEnvC scope cl C X.env) fp) ifs tt)
    (hk : ∀ (s : Shared) (H : Hp) (C : Addr) (cl : List (Str × Addr)) (fp : List Addr), PE (X.blk s H scope (compEnvC scope cl C X.env) fp) kx tk)
    (he : ∀ (s : Shared) (H : Hp) (C : Addr) (cl : List (Str × Addr)) (fp : List Addr), PE (X.blk s H scope (compEnvC scope cl C X.env) fp) vx tv) (hs : ∀ x, foldedSetIterable iter X.env x = pure x := by intro _; rfl) :
    PS X (.Assign [.Name y py] (.DictComp kx vx [⟨tg, iter, ifs, 0⟩] scope pos) spos) (tAsg (tDc wi g tt tk tv (own.map (·.2))) (gName i)) := by
  refine ⟨fun pins s σ H D I h => ?_⟩
  rw [exec_Assign_Name_used _ _ _ _ hsw]
  refine wpAny_bind (wpAny_standAt (wpAny_bind ?_))
  show wpAny _ X.A (do let _ ← comprehension (.DictComp kx vx [⟨tg, iter, ifs, 0⟩] scope pos) scope X.env (firstIterPos [⟨tg, iter, ifs, 0⟩] pos) newDict false (eval iter X.env) (some (assign (.Name y py) X.env))) _ _ s
  have h : tDc wi g tt tk tv (own.map (·.2)) σ H (fun x H1 => gName i x σ H1 D.nx) := h
  refine wpAny_bind (thn (dc_core (Qf := fun _ s' => SP X pins D .next s') hc hN I hi ok hg ht hk he hs h fun L C s' m H' I' q hn f => ?_) fun _ s' hq => wpAny_pure (wpAny_pure hq))
  show wpAny _ _ (assign (.Name y py) X.env (.ref L)) _ _ _
  refine wpAny_assign_Name (store_ok2 (v := V.ref L) I' hN hy (.inl hyl) rfl (fun s2 I2 ⟨a, sb, ha⟩ => ?_) (.inr hyl))
  obtain ⟨f0, f1, f2, f3, f4, f5⟩ := f
  have haC : C ≠ a := by
    rcases ha with z | z
    · rw [z]; exact f1
    · exact fun e => f4 y a z e.symm
  refine ⟨m, hn.sameBut sb haC, fun h3 sb3 => ?_⟩
  exact ⟨_, H', I2.turned (t' := s2.toks) (fun b o hb e => (sb3.2 b hb).trans e) f0 f1 f3 f4 f5, q⟩
end
end PyN
namespace PyA
open PySem L2 PySem.Spec PyProof.Rows
section
variable {X : Cx} {T : NTabs} {W : WX} {e a b c : Expr} {pos p : Pos} {K : PySem.W.Frag} {w : Wd} {h : Hh}
/-! ### methods of built-ins -/
structure AM where
  run : PV → List PV → Hh → QV → Prop
  mono : ∀ {x xs h Q Q'}, run x xs h Q → (∀ v g, Q v g → Q' v g) → run x xs h Q'
def tM (K : PySem.W.Frag) (T : NTabs) (m : AM) : V → List V → Hp → VK → Prop := fun v vs H Q => ∃ (w : Wd) (h : Hh) (x : PV) (xs : List PV), w.H = H ∧ Rel K T w h ∧ RV K w x v ∧ RVs K w xs vs ∧
  m.run x xs h (fun z h' => ∀ w' zv, Rel K T w' h' → w.Le w' → RV K w' z zv → Q zv w'.H)
abbrev MtS (X : Cx) (T : NTabs) (id : String) (m : AM) : Prop := MtR X id (tM X.K T m)
def RecvOk (tn : String) (x : PV) (h : Hh) : Prop := match x with
  | .loc l => (tn = "list" ∧ ∃ xs, h[l]? = some (.lst xs)) ∨ (tn = "dict" ∧ ∃ kvs, h[l]? = some (.dic false kvs))
  | .str _ => tn = "str"
  | _ => False
theorem tyV_of {tn : String} {x : PV} {v : V} (R : Rel K T w h) (r : RV K w x v) (o : RecvOk tn x h) : tyV K tn v w.H := by
  cases x with
  | loc l =>
    rcases o with ⟨e, xs, hl⟩ | ⟨e, kvs, hl⟩
    · obtain ⟨vs, f1, f2, f3⟩ := at_list R r hl
      subst f1
      exact .inl ⟨e, vs, .of f2⟩
    · rw [RV] at r
      obtain ⟨o, ho, d⟩ := R.cell _ _ hl
      rw [r.2]
      rcases d with ⟨ys, f, _⟩ | ⟨ys, f, _⟩
      · subst f; exact .inr (.inr (.inl ⟨e, .inl ⟨ys, ho⟩⟩))
      · subst f; exact .inr (.inr (.inl ⟨e, .inr ⟨ys, ho⟩⟩))
  | str z =>
    rw [RV] at r
    subst r
    exact o
  | _ => exact o.elim
def aMt (tn : String) (m : AM) (A : AE) (B : AA) : AE := ⟨fun e h Q R => A.run e h (fun x h1 => RecvOk tn x h1 ∧ B.run e h1 (fun xs h2 => m.run x xs h2 Q) R) R,
  fun q f g => A.mono q (fun _ _ ⟨o, q1⟩ => ⟨o, B.mono q1 (fun _ _ q2 => m.mono q2 f) g⟩) g⟩
theorem se_mt0 {tn id : String} {m : AM} {A : AE} {name : Str} {apos cpos : Pos} (pa : PlainAttrs tn) (slot : Slot tn name id) (hty : typeOf (.builtin id) = pure (.type "method_descriptor")) (hm : MtS X T id m) (ho : SE X T W e A)
    (hbase : attributeBase e name X.env (eval e X.env) = eval e X.env := by rfl) (hline : (apos.endLine == cpos.line) = true := by rfl) : SE X T W (.Call (.Attribute e name apos) [] [] cpos) (aMt tn m A aNil) :=
  peImp (pe_bm0 pa slot hty hm ho hbase hline) fun σ H Q ⟨w, env, h, e, R, E, q⟩ => ⟨w, env, h, e, R, E, A.mono q (fun x h1 ⟨o, q1⟩ w1 v1 R1 L1 r1 => ⟨tyV_of R1 r1 o, w1, h1, x, [], rfl, R1, r1, RVs.nil, m.mono q1 fun z h2 q2 w2 v2 R2 L2 r2 => q2 w2 v2 R2 (L1.trans L2) r2⟩) fun _ _ q1 => q1⟩
theorem se_mt {tn id : String} {m : AM} {A : AE} {B : AA} {es : List Expr} {name : Str} {apos cpos : Pos} (pa : PlainAttrs tn) (slot : Slot tn name id) (hty : typeOf (.builtin id) = pure (.type "method_descriptor")) (hm : MtS X T id m) (ho : SE X T W e A) (ha : SA X T W (a :: es) B)
    (hbase : attributeBase e name X.env (eval e X.env) = eval e X.env := by rfl)
    (hfew : ((backTo cpos (starEach (a :: es) X.env)).all (fun x => !x.1) && (backToKw cpos (keywordEach [] X.env)).all (fun x => x.1.isSome)
      && decide ((a :: es).length + ([] : List Keyword).length + (if ([] : List Keyword).isEmpty then 0 else 1) < 30)) = true := by rfl)
    (hline : (apos.endLine == cpos.line) = true := by rfl) (hs : starEach (a :: es) X.env = (false, eval a X.env) :: starEach es X.env := by rfl) (hplain : (backTo cpos (starEach es X.env)).any (·.1) = false := by rfl) :
    SE X T W (.Call (.Attribute e name apos) (a :: es) [] cpos) (aMt tn m A B) :=
  peImp (pe_bm pa slot hty hm ho ha hbase hfew hline hs hplain) fun σ H Q ⟨w, env, h, e, R, E, q⟩ => ⟨w, env, h, e, R, E, A.mono q (fun x h1 ⟨o, q1⟩ w1 v1 R1 L1 r1 => ⟨tyV_of R1 r1 o, w1, env, h1, rfl, R1, E.to L1,
    B.mono q1 (fun xs h2 q2 w2 vs R2 L2 r2 => ⟨w2, h2, x, xs, rfl, R2, r1.to L2, r2, m.mono q2 fun z h3 q3 w3 v3 R3 L3 r3 => q3 w3 v3 R3 (L1.trans (L2.trans L3)) r3⟩) fun _ _ q2 => qx_le L1 q2⟩) fun _ _ q1 => q1⟩
theorem mtImp {id : String} {r r' : V → List V → Hp → VK → Prop} (h : MtR X id r) (i : ∀ x xs H Q, r' x xs H Q → r x xs H Q) : MtR X id r' := fun pins s σ H x xs v us Q I rx rs q => h pins s σ H x xs v us Q I rx rs (i x xs H Q q)
/-- a list is rewritten -/
theorem putLst (R : Rel K T w h) {l : Nat} {xs ys : List PV} {vs us : List V} (hi : l < w.n) (hv : w.H (w.m l) = some (.lst vs)) (r : RVs K w ys us) :
    Rel K T (w.put l (.lst us)) (h.set l (.lst ys)) ∧ w.Le (w.put l (.lst us)) := by
  have nf : ∀ od u, w.H (w.m l) ≠ some (.frz od u) := fun od u z => by rw [hv] at z; cases z
  have LP := R.le_put (o := .lst us) hi nf
  exact ⟨R.put hi nf ⟨us, upd_same, r.to LP⟩, LP⟩
def mAppend : AM := ⟨fun x xs h Q => ∃ l zs y, x = .loc l ∧ xs = [y] ∧ h[l]? = some (.lst zs) ∧ zs.length < sizeLine ∧ Q .non (h.set l (.lst (zs ++ [y]))), fun ⟨l, zs, y, a, b, c, d, q⟩ f => ⟨l, zs, y, a, b, c, d, f _ _ q⟩⟩
theorem mt_appendS : MtS X T "list.append" mAppend := mtImp mt_append fun v vs H Q ⟨w, h, x, xs, e0, R, r1, r2, l, zs, y, e1, e2, hl, hz, q⟩ => by
  subst e0 e1 e2
  obtain ⟨us, f1, f2, f3⟩ := at_list R r1 hl
  obtain ⟨u, g1, g2⟩ := rvs1 r2
  rw [RV] at r1
  obtain ⟨P, LP⟩ := putLst (xs := zs) R r1.1 f2 (RVs.append f3 (RVs.cons g2 RVs.nil))
  exact ⟨_, us, u, f1, g1, f2, by rw [← f3.length]; exact hz, q _ _ P LP rv_non⟩
theorem RVs.eraseIdx : ∀ {xs : List PV} {vs : List V} (i : Nat), RVs K w xs vs → RVs K w (xs.eraseIdx i) (vs.eraseIdx i)
  | [], _, _, h => by rw [RVs] at h; subst h; exact RVs.nil
  | y :: xs, _, 0, h => by
    rw [RVs] at h
    obtain ⟨u, r, e, h1, h2⟩ := h
    subst e
    exact h2
  | y :: xs, _, i + 1, h => by
    rw [RVs] at h
    obtain ⟨u, r, e, h1, h2⟩ := h
    subst e
    exact RVs.cons h1 (RVs.eraseIdx i h2)
def mPopAt : AM := ⟨fun x xs h Q => ∃ l zs i k y, x = .loc l ∧ xs = [.int i] ∧ h[l]? = some (.lst zs) ∧ (-(2 ^ 63) ≤ i ∧ i < 2 ^ 63) ∧ seqIndex? i zs.length = some k ∧ zs[k]? = some y ∧ Q y (h.set l (.lst (zs.eraseIdx k))),
  fun ⟨l, zs, i, k, y, a, b, c, d, e, g, q⟩ f => ⟨l, zs, i, k, y, a, b, c, d, e, g, f _ _ q⟩⟩
theorem mt_popAtS : MtS X T "list.pop" mPopAt := mtImp mt_popAt fun v vs H Q ⟨w, h, x, xs, e0, R, r1, r2, l, zs, i, k, y, e1, e2, hl, hi, hk, hy, q⟩ => by
  subst e0 e1 e2
  obtain ⟨us, f1, f2, f3⟩ := at_list R r1 hl
  obtain ⟨u, g1, g2⟩ := rvs1 r2
  rw [RV] at g2
  subst g2
  rw [RV] at r1
  obtain ⟨P, LP⟩ := putLst (xs := zs) R r1.1 f2 (f3.eraseIdx k)
  obtain ⟨yv, h1, h2⟩ := f3.get hy
  exact ⟨_, us, i, k, yv, f1, g1, f2, hi.1, hi.2, by rw [← f3.length]; exact hk, h1, q _ _ P LP (h2.to LP)⟩
def mIndex : AM := ⟨fun x xs h Q => ∃ l y n d ds j z, x = .loc l ∧ xs = [y] ∧ dat h n x = some (.list ds) ∧ dat h n y = some d ∧ SeqAt.shaped (.list ds) = true ∧ SeqAt.shaped d = true ∧ ds[j]? = some z ∧ PyData.eqv z d = true ∧
    (∀ (m : Nat) (z' : PyData), m < j → ds[m]? = some z' → PyData.eqv z' d = false) ∧ Q (.int (j : Nat)) h,
  fun ⟨l, y, n, d, ds, j, z, a, b, c, k, e, g, i, o, m, q⟩ f => ⟨l, y, n, d, ds, j, z, a, b, c, k, e, g, i, o, m, f _ _ q⟩⟩
theorem mt_indexS (hu : X.A.units + 65 < cLine) : MtS X T "list.index" mIndex := mtImp (mt_indexD hu) fun v vs H Q ⟨w, h, x, xs, e0, R, r1, r2, l, y, n, d, ds, j, z, e1, e2, d1, d2, s1, s2, hz, hq, hn, q⟩ => by
  subst e0 e1 e2
  obtain ⟨u, g1, g2⟩ := rvs1 r2
  have D1 := dp_of R n r1 d1
  rw [RV] at r1
  refine ⟨_, u, d, ds, j, z, r1.2, g1, by rw [← r1.2]; exact D1, dp_of R n g2 d2, s1, s2, hz, hq, hn, q w _ R (Wd.Le.refl w) rv_int⟩
def mGet : AM := ⟨fun x xs h Q => ∃ l kvs y k, x = .loc l ∧ h[l]? = some (.dic false kvs) ∧ dk? y = some k ∧ Kind kvs k ∧ ((xs = [y] ∧ Q ((dLook kvs k).getD .non) h) ∨ ∃ z, xs = [y, z] ∧ Q ((dLook kvs k).getD z) h),
  fun ⟨l, kvs, y, k, a, b, c, d, q⟩ f => ⟨l, kvs, y, k, a, b, c, d, q.elim (fun q => .inl ⟨q.1, f _ _ q.2⟩) fun ⟨z, e, q⟩ => .inr ⟨z, e, f _ _ q⟩⟩⟩
theorem mt_getS (hu : X.A.units + 1 < cLine) : MtS X T "dict.get" mGet := mtImp (MtR.or (PyN.mt_get1 hu) (PyN.mt_get2 hu)) fun v vs H Q ⟨w, h, x, xs, e0, R, r1, r2, l, kvs, y, k, e1, hl, hk, kd, q⟩ => by
  subst e0 e1
  rcases q with ⟨e2, q⟩ | ⟨z, e2, q⟩
  · subst e2
    obtain ⟨u, g1, g2⟩ := rvs1 r2
    obtain ⟨a, ea, F⟩ := dget_at R hl hk kd r1 g2
    exact .inl (F fun w' R' L' ⟨o, g, ro⟩ => ⟨a, u, o, ea, g1, g, q w' _ R' L' (ro.getD rv_non)⟩)
  · subst e2
    obtain ⟨u, zv, g1, g2, g3⟩ := rvs2 r2
    obtain ⟨a, ea, F⟩ := dget_at R hl hk kd r1 g2
    exact .inr (F fun w' R' L' ⟨o, g, ro⟩ => ⟨a, u, zv, o, ea, g1, g, q w' _ R' L' (ro.getD (g3.to L'))⟩)
def mSetd : AM := ⟨fun x xs h Q => ∃ l kvs y z k, x = .loc l ∧ xs = [y, z] ∧ h[l]? = some (.dic false kvs) ∧ dk? y = some (.inl k) ∧ Kind kvs (.inl k) ∧ kvs.length < sizeLine ∧
    ((∃ v, dLook kvs (.inl k) = some v ∧ Q v h) ∨ (dLook kvs (.inl k) = none ∧ Q z (h.set l (.dic false (dPut kvs (.inl k) z))))),
  fun ⟨l, kvs, y, z, k, a, b, c, d, e, g, q⟩ f => ⟨l, kvs, y, z, k, a, b, c, d, e, g, q.elim (fun ⟨v, e, q⟩ => .inl ⟨v, e, f _ _ q⟩) fun ⟨e, q⟩ => .inr ⟨e, f _ _ q⟩⟩⟩
theorem mt_setdS : MtS X T "dict.setdefault" mSetd := mtImp PyN.mt_setd fun v vs H Q ⟨w, h, x, xs, e0, R, r1, r2, l, kvs, y, z, k, e1, e2, hl, hk, kd, hz, q⟩ => by
  subst e0 e1 e2
  obtain ⟨yv, zv, g1, g2, g3⟩ := rvs2 r2
  have r1' := r1
  rw [RV] at r1
  obtain ⟨o, ho, d⟩ := R.cell _ _ hl
  have fin : ∀ (w1 : Wd) (ys : List (Key × V)), Rel X.K T w1 h → w.Le w1 → w1.n = w.n → w1.m l = w.m l → w1.H (w.m l) = some (.dK ys) → KVs X.K w1 Sum.inl kvs ys →
      ∃ a y z kvs k, v = .ref a ∧ vs = [y, z] ∧ w1.H a = some (.dK kvs) ∧ y = kV k ∧ kvs.length < sizeLine ∧ (∀ v, valV kvs k = some v → Q v w1.H) ∧ (valV kvs k = none → Q z (upd w1.H a (.dK (putK kvs k z)))) := by
    intro w1 ys R1 L1 en em h1 d1
    refine ⟨w.m l, yv, zv, ys, k, r1.2, g1, h1, rv_dkL hk g2, by rw [← d1.length]; exact hz, fun u hu => ?_, fun hu => ?_⟩
    · rcases KVs.look inlI d1 k with ⟨x', u', f1, f2, f3⟩ | ⟨f1, f2⟩
      · rw [hu] at f2
        cases f2
        rcases q with ⟨x2, e2, q⟩ | ⟨e2, q⟩
        · rw [f1] at e2; cases e2
          exact q w1 _ R1 L1 f3
        · rw [f1] at e2; cases e2
      · rw [hu] at f2; cases f2
    · rcases KVs.look inlI d1 k with ⟨x', u', f1, f2, f3⟩ | ⟨f1, f2⟩
      · rw [hu] at f2; cases f2
      · rcases q with ⟨x2, e2, q⟩ | ⟨e2, q⟩
        · rw [f1] at e2; cases e2
        · have hi : l < w1.n := by rw [en]; exact r1.1
          have nf : ∀ od u, w1.H (w1.m l) ≠ some (.frz od u) := fun od u z => by rw [em, h1] at z; cases z
          have LP := R1.le_put (o := .dK (putK ys k zv)) hi nf
          have P := R1.put (o := .dK (putK ys k zv)) hi nf (c := .dic false (dPut kvs (.inl k) z)) ⟨_, upd_same, .inl ⟨_, rfl, KVs.put inlI (d1.to LP) k (g3.to (L1.trans LP))⟩⟩
          have q2 := q _ zv P (L1.trans LP) (g3.to (L1.trans LP))
          have eH : (w1.put l (.dK (putK ys k zv))).H = upd w1.H (w.m l) (.dK (putK ys k zv)) := by
            show upd w1.H (w1.m l) _ = _
            rw [em]
          rw [← eH]
          exact q2
  rcases dic_kind d kd with ⟨e, e1, e2⟩ | ⟨e, e1, e2⟩ | ⟨e2, ys, e, d2⟩ | ⟨e2, ys, e, d2⟩
  · cases e2
  · subst e e1
    obtain ⟨a1, a2, a3⟩ := recast (R := R) (o' := .dK []) hl ho (fun _ _ z => by cases z) (fun w => .inl ⟨[], rfl, rfl⟩)
    exact .inr (.inr ⟨w.m l, ho, fin _ [] a1 a2 rfl rfl a3 rfl⟩)
  · subst e
    exact .inl (fin w ys R (Wd.Le.refl w) rfl rfl ho d2)
  · cases e2

/-! ### locks -/
/-- the dict that is walked is locked -/
def lkAt (l : Nat) (kvs : List (DK × PV)) (P : Hh → Prop) : Hh → Prop := fun h => h[l]? = some (.dic true kvs) ∧ P (h.set l (.dic false kvs))
def lkD (D : AD) (l : Nat) (kvs : List (DK × PV)) : AD := { nx := fun e => lkAt l kvs (D.nx e), rt := fun v => lkAt l kvs (D.rt v), bk := fun e => lkAt l kvs (D.bk e), ct := fun e => lkAt l kvs (D.ct e), ex := D.ex }
def sLock (A : AS) : AS := ⟨fun D e h => ∃ l kvs, h[l]? = some (.dic false kvs) ∧ A.run (lkD D l kvs) e (h.set l (.dic true kvs)),
  fun ⟨l, kvs, a, q⟩ L => ⟨l, kvs, a, A.mono q ⟨fun e h q => ⟨q.1, L.nx _ _ q.2⟩, fun e h q => ⟨q.1, L.rt _ _ q.2⟩, fun e h q => ⟨q.1, L.bk _ _ q.2⟩, fun e h q => ⟨q.1, L.ct _ _ q.2⟩, L.ex⟩⟩⟩
def aLock (A : AE) : AE := ⟨fun e h Q R => ∃ l kvs, h[l]? = some (.dic false kvs) ∧ A.run e (h.set l (.dic true kvs)) (fun v => lkAt l kvs (Q v)) R,
  fun ⟨l, kvs, a, q⟩ f g => ⟨l, kvs, a, A.mono q (fun v h q => ⟨q.1, f _ _ q.2⟩) g⟩⟩
/-- locking, and what unlocking gives back -/
theorem lock_at (R : Rel K T w h) {l : Nat} {kvs : List (DK × PV)} (hl : h[l]? = some (.dic false kvs)) : ∃ u, w.H (w.m l) = some u ∧ Mut (some u) ∧ ∀ od, Rel K T (w.put l (.frz od u)) (h.set l (.dic true kvs)) ∧ w.Le (w.put l (.frz od u)) ∧
    ∀ w' h', Rel K T w' h' → (w.put l (.frz od u)).Le w' → h'[l]? = some (.dic true kvs) → w'.H (w.m l) = some (.frz od u) ∧ (w'.put l u).H = upd w'.H (w.m l) u ∧ Rel K T (w'.put l u) (h'.set l (.dic false kvs)) ∧ w.Le (w'.put l u) ∧ (∀ {x v}, RV K w' x v → RV K (w'.put l u) x v) ∧ (∀ {e σ}, EnvR K w' e σ → EnvR K (w'.put l u) e σ) := by
  have hi : l < w.n := by rw [R.len]; exact (List.getElem?_eq_some_iff.mp hl).1
  obtain ⟨u, hu, d⟩ := R.cell _ _ hl
  have nfu : ∀ od v, u ≠ .frz od v := by
    rcases d with ⟨ys, e, _⟩ | ⟨ys, e, _⟩ <;> (subst e; intro _ _ z; cases z)
  have mu : Mut (some u) := by
    rcases d with ⟨ys, e, _⟩ | ⟨ys, e, _⟩ <;> (subst e; exact True.intro)
  refine ⟨u, hu, mu, fun od => ?_⟩
  have nf : ∀ od v, w.H (w.m l) ≠ some (.frz od v) := fun od v z => nfu od v (by rw [hu] at z; exact Option.some.inj z)
  have L1 := R.le_put (o := .frz od u) hi nf
  refine ⟨R.put hi nf ⟨od, u, upd_same, d.to L1⟩, L1, fun w' h' R' L' hl' => ?_⟩
  have em : w'.m l = w.m l := L'.m l hi
  have hi' : l < w'.n := Nat.lt_of_lt_of_le hi L'.n
  have h1 : w'.H (w.m l) = some (.frz od u) := L'.frz _ _ _ upd_same
  have eH : (w'.put l u).H = upd w'.H (w.m l) u := by show upd w'.H (w'.m l) _ = _; rw [em]
  have LL : w.Le (w'.put l u) := by
    have LA := L1.trans L'
    refine ⟨LA.n, LA.m, fun a o ha off nt => ?_, fun i h1 h2 => LA.fresh i h1 h2, fun a ha => ?_, fun a od' o ha => ?_⟩
    · rw [eH, upd_ne (fun z => off l hi z.symm)]
      exact LA.keep a o ha off nt
    · rw [eH]
      by_cases q : a = w.m l
      · rw [q, upd_same]; exact fun z => by cases z
      · rw [upd_ne q]; exact LA.dom a ha
    · rw [eH, upd_ne (fun z => nf od' o (by rw [← z]; exact ha))]
      exact LA.frz a od' o ha
  -- what is known in w' stays
  have rvk : ∀ (x : PV) (v : V), RV K w' x v → RV K (w'.put l u) x v := by
    have LQ : ∀ a o, w'.H a = some o → w'.Off a → (w'.put l u).H a = some o := fun a o ha off => by
      rw [eH, upd_ne (fun z => off l hi' (em.trans z.symm))]
      exact ha
    have offk : ∀ a, w'.Off a → (w'.put l u).Off a := fun a o => o
    intro x
    induction x using PV.rec (motive_2 := fun xs => ∀ vs, RVs K w' xs vs → RVs K (w'.put l u) xs vs) with
    | non => intro v r; simpa [RV] using r
    | bl b => intro v r; simpa [RV] using r
    | int b => intro v r; simpa [RV] using r
    | str b => intro v r; simpa [RV] using r
    | tup xs ih =>
      intro v r
      rw [RV] at r ⊢
      obtain ⟨a, vs, e1, ⟨t1, t2⟩, r2⟩ := r
      exact ⟨a, vs, e1, ⟨t1, LQ a _ t2 t1⟩, ih vs r2⟩
    | fls xs ih =>
      intro v r
      rw [RV] at r ⊢
      obtain ⟨a, vs, e1, t, r2⟩ := r
      refine ⟨a, vs, e1, ?_, ih vs r2⟩
      rcases t with ⟨off, h | ⟨ob, h⟩⟩ | t
      · exact .inl ⟨off, .inl (LQ a _ h off)⟩
      · exact .inl ⟨off, .inr ⟨ob, LQ a _ h off⟩⟩
      · exact .inr t
    | ftp xs ih =>
      intro v r
      rw [RV] at r ⊢
      obtain ⟨a, vs, od, e1, off, h, hd, r2⟩ := r
      exact ⟨a, vs, od, e1, off, LQ a _ h off, hd, ih vs r2⟩
    | loc n => intro v r; rw [RV] at r ⊢; exact r
    | adr n => intro v r; simpa [RV] using r
    | gf n => intro v r; simpa [RV] using r
    | clo d f c cl xs vs ih =>
      intro v r
      rw [RV] at r ⊢
      obtain ⟨e1, o1, h1, o2, h2, r2⟩ := r
      exact ⟨e1, o1, LQ f _ h1 o1, o2, LQ c _ h2 o2, ih vs r2⟩
    | ty n => intro v r; simpa [RV] using r
    | exn c fs xs ih =>
      intro v r
      rw [RV] at r ⊢
      obtain ⟨a, vs, e, off, r, h⟩ := r
      refine ⟨a, vs, e, off, ih vs r, ?_⟩
      rcases h with ⟨e1, e2, h⟩ | ⟨d, od, h1, h2, h3⟩
      · exact .inl ⟨e1, e2, LQ a _ h off⟩
      · exact .inr ⟨d, od, LQ a _ h1 off, LQ d _ h2 od, h3⟩
    | nil =>
      rename_i r
      simpa [RVs] using r
    | cons x xs ih1 ih2 =>
      rename_i r
      rw [RVs] at r ⊢
      obtain ⟨v, t, e, r1, r2⟩ := r
      exact ⟨v, t, e, ih1 v r1, ih2 t r2⟩
  have rvk' : ∀ {x v}, RV K w' x v → RV K (w'.put l u) x v := fun {x v} r => rvk x v r
  refine ⟨h1, eH, ?_, LL, rvk', fun {e σ} E => ⟨E.1, fun i x q => let ⟨v, a, b⟩ := E.2 i x q; ⟨v, a, rvk' b⟩⟩⟩
  -- the cells
  have rvs : ∀ {xs vs}, RVs K w' xs vs → RVs K (w'.put l u) xs vs := by
    intro xs
    induction xs with
    | nil => intro vs r; simpa [RVs] using r
    | cons x xs ih =>
      intro vs r
      rw [RVs] at r ⊢
      obtain ⟨v, t, e, r1, r2⟩ := r
      exact ⟨v, t, e, rvk' r1, ih r2⟩
  have kvk : ∀ {κ : Type} {f : κ → DK} {kvs : List (DK × PV)} {ys : List (κ × V)}, KVs K w' f kvs ys → KVs K (w'.put l u) f kvs ys := by
    intro κ f kvs
    induction kvs with
    | nil => intro ys q; exact q
    | cons p r ih =>
      intro ys q
      obtain ⟨k, v, t, e1, e2, e3, e4⟩ := q
      exact ⟨k, v, t, e1, e2, rvk' e3, ih e4⟩
  have dk : ∀ {kvs o}, DicR K w' kvs o → DicR K (w'.put l u) kvs o := by
    intro kvs o q
    rcases q with ⟨ys, e, q⟩ | ⟨ys, e, q⟩
    · exact .inl ⟨ys, e, kvk q⟩
    · exact .inr ⟨ys, e, kvk q⟩
  refine ⟨by rw [List.length_set]; exact R'.len, R'.inj, fun j c e => ?_, fun q hq => ?_⟩
  · by_cases z : j = l
    · subst z
      have : j < h'.length := by rw [← R'.len]; exact hi'
      rw [List.getElem?_set_self this] at e
      cases e
      refine ⟨u, by rw [eH]; show upd w'.H _ _ (w'.m j) = _; rw [em]; exact upd_same, d.to LL⟩
    · rw [List.getElem?_set_ne (Ne.symm z)] at e
      have hc := R'.cell j c e
      have hj : j < w'.n := by rw [R'.len]; exact (List.getElem?_eq_some_iff.mp e).1
      have ne : w'.m j ≠ w'.m l := fun q => z (R'.inj j l hj hi' q)
      have hh : (w'.put l u).H (w'.m j) = w'.H (w'.m j) := upd_ne ne
      show CellR K (w'.put l u) c (w'.m j)
      cases c with
      | lst xs => obtain ⟨vs, a1, a2⟩ := hc; exact ⟨vs, hh.trans a1, rvs a2⟩
      | dic lk kv =>
        cases lk with
        | false => obtain ⟨o, a1, a2⟩ := hc; exact ⟨o, hh.trans a1, dk a2⟩
        | true => obtain ⟨od, o, a1, a2⟩ := hc; exact ⟨od, o, hh.trans a1, dk a2⟩
      | dik kv => obtain ⟨ys, a1, a2⟩ := hc; exact ⟨ys, hh.trans a1, kvk a2⟩
      | set ks => exact hc.elim
      | ins cl fs xs => obtain ⟨dx, vs, a1, a2, a3, a4⟩ := hc; exact ⟨dx, vs, hh.trans a1, a2, a3, rvs a4⟩
  · have nt : ∀ ps, w'.H (w'.m l) ≠ some (.tbl ps) := fun ps z => by rw [em, h1] at z; cases z
    have nx : ∀ φ, w'.H (w'.m l) ≠ some (.ext φ) := fun ps z => by rw [em, h1] at z; cases z
    obtain ⟨ps, g1, g2, g3⟩ := R'.tabs q hq
    refine ⟨ps, ?_, g2, fun pp cv hcv => ?_⟩
    · show upd w'.H _ _ _ = _
      rw [upd_ne (fun z => nt ps (by rw [← z]; exact g1))]
      exact g1
    · obtain ⟨c, e1, e2⟩ := g3 pp cv hcv
      refine ⟨c, e1, ?_⟩
      show upd w'.H _ _ _ = _
      rw [upd_ne (fun z => nx _ (by rw [← z]; exact e2))]
      exact e2
theorem ss_lock {st : Stmt} {A : AS} (hs : SS X T W st A) : SS X T W st (sLock A) :=
  psImp (ps_lock hs) fun D σ H ⟨w, env, h, e, R, E, l, kvs, hl, q⟩ => by
    subst e
    obtain ⟨u, hu, mu, F⟩ := lock_at R hl
    refine ⟨w.m l, u, hu, mu, fun od => ?_⟩
    obtain ⟨R1, L1, G⟩ := F od
    refine ⟨_, env, _, rfl, R1, E.to L1, A.mono q ⟨?_, ?_, ?_, ?_, ?_⟩⟩
    · intro e' h' ⟨q1, q2⟩ w' σ' R' L' E'
      obtain ⟨a1, a2, a3, a4, a5, a6⟩ := G w' h' R' L' q1
      exact ⟨a1, a2 ▸ q2 _ _ a3 a4 (a6 E')⟩
    · intro x h' ⟨q1, q2⟩ w' v R' L' r'
      obtain ⟨a1, a2, a3, a4, a5, a6⟩ := G w' h' R' L' q1
      exact ⟨a1, a2 ▸ q2 _ _ a3 a4 (a5 r')⟩
    · intro e' h' ⟨q1, q2⟩ w' σ' R' L' E'
      obtain ⟨a1, a2, a3, a4, a5, a6⟩ := G w' h' R' L' q1
      exact ⟨a1, a2 ▸ q2 _ _ a3 a4 (a6 E')⟩
    · intro e' h' ⟨q1, q2⟩ w' σ' R' L' E'
      obtain ⟨a1, a2, a3, a4, a5, a6⟩ := G w' h' R' L' q1
      exact ⟨a1, a2 ▸ q2 _ _ a3 a4 (a6 E')⟩
    · intro x e' h' q1 w' σ' cls d R' L' E' r'
      exact q1 w' σ' cls d R' (L1.trans L') E' r'
theorem se_lock {A : AE} (hs : SE X T W e A) : SE X T W e (aLock A) :=
  peImp (pe_lock hs) fun σ H Q ⟨w, env, h, e, R, E, l, kvs, hl, q⟩ => by
    subst e
    obtain ⟨u, hu, mu, F⟩ := lock_at R hl
    refine ⟨w.m l, u, hu, mu, fun od => ?_⟩
    obtain ⟨R1, L1, G⟩ := F od
    refine ⟨_, env, _, rfl, R1, E.to L1, A.mono q (fun x h' ⟨q1, q2⟩ w' v R' L' r' => ?_) fun x h' q1 => qx_le L1 q1⟩
    obtain ⟨a1, a2, a3, a4, a5, a6⟩ := G w' h' R' L' q1
    exact ⟨a1, a2 ▸ q2 _ _ a3 a4 (a5 r')⟩
/-! ### walks over a locked dict -/
def itK (A : AE) : AI := iOf A fun x h J => ∃ l kvs, x = .loc l ∧ h[l]? = some (.dic true kvs) ∧ J = ⟨kvs.map fun p => dkPV p.1, fun _ => True⟩
def itKV (A : AE) : AI := iOf A fun x h J => ∃ l kvs, x = .loc l ∧ h[l]? = some (.dic true kvs) ∧ (∀ p ∈ kvs, p.1.isLeft = true) ∧ kvs ≠ [] ∧ J = ⟨kvs.map fun p => .tup [dkPV p.1, p.2], fun _ => True⟩
theorem rv_keyPV (k : Key) : RV K w (keyPV k) (kV k) := by
  cases k with
  | inl i => exact rv_int
  | inr s => rw [keyPV, RV]; rfl
theorem rvs_keyPV : ∀ ks : List Key, RVs K w (ks.map keyPV) (ks.map kV)
  | [] => RVs.nil
  | k :: ks => RVs.cons (rv_keyPV k) (rvs_keyPV ks)
/-- keys of a dict are not tuples of ours, so only int and text keys are walked -/
theorem si_keys {tg : Expr} {A : AE} (ha : SE X T W e A) : SI X T W tg e (itK A) :=
  piImp (pi_keys ha) fun σ H R ⟨w, env, h, e0, RR, E, q⟩ => ⟨w, env, h, e0, RR, E, A.mono q (fun x h1 ⟨J, hJ, q1⟩ w1 v1 R1 L1 r1 => by
    obtain ⟨l, kvs, ex, hl, eJ⟩ := hJ
    subst ex eJ
    rw [RV] at r1
    obtain ⟨od, o, ho, d⟩ := R1.cell _ _ hl
    rcases d with ⟨ys, e1, d⟩ | ⟨ys, e1, d⟩
    · subst e1
      refine ⟨w1.m l, od, r1.2, .inl ⟨ys, ho, q1 w1 _ R1 L1 fun i w g L R _ => ?_⟩⟩
      have hf := L.frz _ _ _ ho
      refine ⟨fun e => ⟨hf, by rw [← d.length, e]; simp⟩, fun x hx => ?_⟩
      have hx : (kvs.map fun p => dkPV p.1)[i]? = some x := hx
      rw [List.getElem?_map] at hx
      cases hp : kvs[i]? with
      | none => rw [hp] at hx; cases hx
      | some p =>
        rw [hp] at hx
        cases hx
        obtain ⟨k, v, g1, g2, g3⟩ := d.get hp
        refine ⟨⟨hf, (List.getElem?_eq_some_iff.mp g1).1⟩, fun v' H' ⟨eH, k', v'', e2, e3⟩ => ⟨w, eH.symm, R, Wd.Le.refl w, ?_⟩⟩
        rw [g1] at e2
        cases e2
        rw [e3]
        show RV X.K w (dkPV p.1) _
        rw [g2]
        exact rv_keyPV k
    · subst e1
      refine ⟨w1.m l, od, r1.2, .inr ⟨ys, ho, q1 w1 _ R1 L1 fun i w g L R _ => ?_⟩⟩
      have hf := L.frz _ _ _ ho
      refine ⟨fun e => ⟨hf, by rw [← d.length, e]; simp⟩, fun x hx => ?_⟩
      have hx : (kvs.map fun p => dkPV p.1)[i]? = some x := hx
      rw [List.getElem?_map] at hx
      cases hp : kvs[i]? with
      | none => rw [hp] at hx; cases hx
      | some p =>
        rw [hp] at hx
        cases hx
        obtain ⟨k, v, g1, g2, g3⟩ := d.get hp
        refine ⟨⟨hf, (List.getElem?_eq_some_iff.mp g1).1⟩, fun v' H' ⟨eH, k', v'', b, e2, e3, e4⟩ => ⟨w, eH.symm, R, Wd.Le.refl w, ?_⟩⟩
        rw [g1] at e2
        cases e2
        rw [e3]
        show RV X.K w (dkPV p.1) _
        rw [g2, dkPV, RV]
        refine ⟨b, _, rfl, ⟨R.offT e4, e4⟩, rvs_keyPV k⟩) fun _ _ q1 => q1⟩
theorem si_items {elts : List Expr} {kk : Nat} {tpos apos cpos : Pos} {A : AE} (ha : SE X T W e A) (hbase : attributeBase e "items" X.env (eval e X.env) = eval e X.env := by rfl) (hline : (apos.endLine == cpos.line) = true := by rfl) :
    SI X T W (.Tuple elts kk tpos) (.Call (.Attribute e "items" apos) [] [] cpos) (itKV A) :=
  piImp (pi_items ha hbase hline) fun σ H R ⟨w, env, h, e0, RR, E, q⟩ => ⟨w, env, h, e0, RR, E, A.mono q (fun x h1 ⟨J, hJ, q1⟩ w1 v1 R1 L1 r1 => by
    obtain ⟨l, kvs, ex, hl, hk, hne, eJ⟩ := hJ
    subst ex eJ
    rw [RV] at r1
    obtain ⟨od, o, ho, d⟩ := R1.cell _ _ hl
    rcases d with ⟨ys, e1, d⟩ | ⟨ys, e1, d⟩
    · subst e1
      refine ⟨w1.m l, od, ys, r1.2, ho, q1 w1 _ R1 L1 fun i w g L R _ => ?_⟩
      have hf := L.frz _ _ _ ho
      refine ⟨fun e => ⟨hf, by rw [← d.length, e]; simp⟩, fun x hx => ?_⟩
      have hx : (kvs.map fun p => PV.tup [dkPV p.1, p.2])[i]? = some x := hx
      rw [List.getElem?_map] at hx
      cases hp : kvs[i]? with
      | none => rw [hp] at hx; cases hx
      | some p =>
        rw [hp] at hx
        cases hx
        obtain ⟨k, v, g1, g2, g3⟩ := d.get hp
        refine ⟨⟨hf, (List.getElem?_eq_some_iff.mp g1).1⟩, fun v' H' ⟨b, k', v'', e2, e3, e4, eH⟩ => ?_⟩
        rw [g1] at e2
        cases e2
        obtain ⟨w', f1, f2, f3, f4⟩ := newPair (T := T) R e4 (rv_keyPV k) (g3.to L)
        refine ⟨w', f1.trans eH.symm, f2, f3, ?_⟩
        rw [e3]
        show RV X.K w' (.tup [dkPV p.1, p.2]) _
        rw [g2]
        exact f4
    · cases kvs with
      | nil => exact absurd rfl hne
      | cons p r =>
        obtain ⟨k, v, t, _, e2, _⟩ := d
        have := hk p List.mem_cons_self
        rw [e2] at this
        cases this) fun _ _ q1 => q1⟩
/-! ### {} and {k: v, ..} -/
def aDic0 : AE := ⟨fun _ h Q _ => Q (.loc h.length) (h ++ [.dic false []]), fun q f _ => f _ _ q⟩
theorem newDic (R : Rel K T w h) {p : Addr} (hp : w.H p = none) : Rel K T (w.push p (.dK [])) (h ++ [.dic false []]) ∧ Rel K T (w.push p (.dK [])) (h ++ [.dik []]) ∧ w.Le (w.push p (.dK [])) ∧ RV K (w.push p (.dK [])) (.loc h.length) (.ref p) := by
  refine ⟨R.push hp ⟨_, upd_same, .inl ⟨[], rfl, rfl⟩⟩, R.push hp ⟨[], upd_same, rfl⟩, Wd.le_push hp, ?_⟩
  rw [RV]
  refine ⟨by show _ < w.n + 1; rw [R.len]; exact Nat.lt_succ_self _, ?_⟩
  show V.ref p = V.ref (if h.length = w.n then p else _)
  rw [if_pos R.len.symm]
theorem se_dic0 : SE X T W (.Dict [] [] pos) aDic0 := peImp pe_dnewK fun σ H Q ⟨w, env, h, e, R, E, q⟩ p hp => by
  subst e
  obtain ⟨a1, a2, a3, a4⟩ := newDic (T := T) R hp
  exact q _ _ a1 a3 a4
/-- the dict that is being made is told as a dict -/
theorem dik_dic (R : Rel K T w h) {l : Nat} {kvs : List (DK × PV)} {ys : List (Key × V)} (hl : h[l]? = some (.dik kvs)) (d : KVs K w Sum.inl kvs ys) (e : w.H (w.m l) = some (.dK ys)) : Rel K T w (h.set l (.dic false kvs)) where
  len := by rw [List.length_set]; exact R.len
  inj := R.inj
  tabs := R.tabs
  cell := fun j c q => by
    by_cases z : j = l
    · subst z
      have : j < h.length := (List.getElem?_eq_some_iff.mp hl).1
      rw [List.getElem?_set_self this] at q
      cases q
      exact ⟨_, e, .inl ⟨ys, rfl, d⟩⟩
    · rw [List.getElem?_set_ne (Ne.symm z)] at q
      exact R.cell j c q
/-- the pairs of a display, from the left -/
structure AP where
  run : Ev → Hh → (List (PV × PV) → Hh → Prop) → QX → Prop
  mono : ∀ {e h Q Q' R R'}, run e h Q R → (∀ v g, Q v g → Q' v g) → (∀ x g, R x g → R' x g) → run e h Q' R'
def apNil : AP := ⟨fun _ h Q _ => Q [] h, fun q f _ => f _ _ q⟩
def apCons (A B : AE) (P : AP) : AP := ⟨fun e h Q R => A.run e h (fun x h1 => B.run e h1 (fun y h2 => P.run e h2 (fun r h3 => Q ((x, y) :: r) h3) R) R) R,
  fun q f g => A.mono q (fun _ _ q1 => B.mono q1 (fun _ _ q2 => P.mono q2 (fun _ _ q3 => f _ _ q3) g) g) g⟩
def RPs (K : PySem.W.Frag) (w : Wd) : List (PV × PV) → List (V × V) → Prop
  | [], ys => ys = []
  | p :: r, ys => ∃ x y t, ys = (x, y) :: t ∧ RV K w p.1 x ∧ RV K w p.2 y ∧ RPs K w r t
structure SP (X : Cx) (T : NTabs) (W : WX) (pos : Pos) (keys : List (Option Expr)) (values : List Expr) (P : AP) : Prop where
  ex : ∃ trs, PPs X pos keys values trs ∧ ∀ (σ : L2.St) (w : Wd) (env : Ev) (h : Hh) (Q : List (V × V) → Hp → Prop), Rel X.K T w h → EnvR X.K w env σ →
    P.run env h (fun ps h' => ∀ w' ys, Rel X.K T w' h' → w.Le w' → RPs X.K w' ps ys → Q ys w'.H) (qx X.K T W w σ) → tPairs trs σ w.H Q
theorem RPs.to {w w' : Wd} (l : w.Le w') : ∀ {ps : List (PV × PV)} {ys : List (V × V)}, RPs K w ps ys → RPs K w' ps ys
  | [], _, h => h
  | p :: r, _, h => by
    obtain ⟨x, y, t, e, h1, h2, h3⟩ := h
    exact ⟨x, y, t, e, h1.to l, h2.to l, RPs.to l h3⟩
theorem sp_nil : SP X T W pos [] [] apNil := ⟨⟨[], pps_nil, fun σ w env h Q R E q => q w [] R (Wd.Le.refl w) rfl⟩⟩
theorem sp_cons {keys : List (Option Expr)} {values : List Expr} {A B : AE} {P : AP} (ha : SE X T W a A) (hb : SE X T W b B) (hr : SP X T W pos keys values P) : SP X T W pos (some a :: keys) (b :: values) (apCons A B P) := by
  obtain ⟨trs, h1, h2⟩ := hr.ex
  refine ⟨⟨_, pps_cons ha hb h1, fun σ w env h Q R E q => ?_⟩⟩
  refine ⟨w, env, h, rfl, R, E, A.mono q (fun x h1 q1 w1 v1 R1 L1 r1 => ⟨w1, env, h1, rfl, R1, E.to L1, B.mono q1 (fun y h2' q2 w2 v2 R2 L2 r2 => ?_) fun _ _ q2 => qx_le L1 q2⟩) fun _ _ q1 => q1⟩
  refine h2 σ w2 env h2' _ R2 (E.to (L1.trans L2)) (P.mono q2 (fun ps h3 q3 w3 ys R3 L3 r3 => q3 w3 _ R3 (L1.trans (L2.trans L3)) ⟨v1, v2, ys, rfl, r1.to (L2.trans L3), r2.to L3, r3⟩) fun _ _ q3 => qx_le (L1.trans L2) q3)
/-- the pairs, as a dict's pairs -/
def mrgP : List (DK × PV) → List (PV × PV) → Option (List (DK × PV))
  | acc, [] => some acc
  | acc, p :: r => match dk? p.1 with
    | some (.inl k) => mrgP (dPut acc (.inl k) p.2) r
    | _ => none
def aDisp (P : AP) : AE := ⟨fun e h Q R => P.run e (h ++ [.dik []]) (fun ps h1 => ∃ kvs, h1[h.length]? = some (.dik []) ∧ mrgP [] ps = some kvs ∧ ps.length ≤ 15 ∧ Q (.loc h.length) (h1.set h.length (.dic false kvs))) R,
  fun q f g => P.mono q (fun _ _ ⟨kvs, a, b, c, q1⟩ => ⟨kvs, a, b, c, f _ _ q1⟩) g⟩
theorem mrg_rel : ∀ {ps : List (PV × PV)} {ys : List (V × V)} {acc : List (DK × PV)} {as : List (Key × V)} {kvs : List (DK × PV)}, RPs K w ps ys → KVs K w Sum.inl acc as → mrgP acc ps = some kvs →
    ∃ ks : List (Key × V), ys = ks.map (fun kv => (kV kv.1, kv.2)) ∧ KVs K w Sum.inl kvs (mergeK as ks)
  | [], ys, acc, as, kvs, r, d, e => by
    cases (show ys = [] from r)
    cases e
    exact ⟨[], rfl, d⟩
  | p :: ps, ys, acc, as, kvs, r, d, e => by
    obtain ⟨x, y, t, e1, r1, r2, r3⟩ := r
    subst e1
    rw [mrgP] at e
    cases hk : dk? p.1 with
    | none => rw [hk] at e; cases e
    | some k =>
      rw [hk] at e
      cases k with
      | inr ks => cases e
      | inl k =>
        obtain ⟨ks, f1, f2⟩ := mrg_rel r3 (KVs.put inlI d k r2) e
        exact ⟨(k, y) :: ks, by rw [f1, rv_dkL hk r1]; rfl, f2⟩
theorem RPs.length : ∀ {ps : List (PV × PV)} {ys : List (V × V)}, RPs K w ps ys → ps.length = ys.length
  | [], _, h => by cases (show _ = _ from h); rfl
  | p :: r, _, h => by
    obtain ⟨x, y, t, e, _, _, h3⟩ := h
    rw [e, List.length_cons, List.length_cons, RPs.length h3]
theorem se_disp {keys : List (Option Expr)} {values : List Expr} {P : AP} (hp : SP X T W pos keys values P) (hall : keys.all (·.isSome) = true := by rfl) (hl : keys.length = values.length := by rfl) (h0 : keys ≠ [] := by intro z; cases z) (h15 : keys.length ≤ 15 := by decide) : SE X T W (.Dict keys values pos) (aDisp P) := by
  obtain ⟨trs, h1, h2⟩ := hp.ex
  refine peImp (pe_disp h1 hall hl h0 h15) fun σ H Q ⟨w, env, h, e, R, E, q⟩ p hp => ?_
  subst e
  obtain ⟨a1, a2, a3, a4⟩ := newDic (T := T) R hp
  refine h2 σ _ env _ _ a2 (E.to a3) (P.mono q (fun ps g ⟨kvs, b1, b2, b3, q1⟩ w1 ys R1 L1 r1 => ?_) fun _ _ q2 => qx_le a3 q2)
  have hn : h.length < (w.push p (.dK [])).n := by show _ < w.n + 1; rw [R.len]; exact Nat.lt_succ_self _
  have hm : w1.m h.length = p := by
    rw [L1.m _ hn]
    show (if h.length = w.n then p else _) = p
    rw [if_pos R.len.symm]
  obtain ⟨ys0, c1, c2⟩ := R1.cell _ _ b1
  cases (show ys0 = [] from c2)
  rw [hm] at c1
  obtain ⟨ks, f1, f2⟩ := mrg_rel r1 (acc := []) (as := []) rfl b2
  refine ⟨c1, ks, f1, by rw [r1.length, f1, List.length_map] at b3; exact b3, ?_⟩
  have hn1 : h.length < w1.n := Nat.lt_of_lt_of_le hn L1.n
  have nf : ∀ od u, w1.H (w1.m h.length) ≠ some (.frz od u) := fun od u z => by rw [hm, c1] at z; cases z
  have LP := R1.le_put (o := .dK (mergeK [] ks)) hn1 nf
  have PP := R1.put (o := .dK (mergeK [] ks)) hn1 nf (c := .dic false kvs) ⟨_, upd_same, .inl ⟨_, rfl, f2.to LP⟩⟩
  have eH : (w1.put h.length (.dK (mergeK [] ks))).H = upd w1.H p (.dK (mergeK [] ks)) := by show upd w1.H (w1.m _) _ = _; rw [hm]
  rw [← eH]
  exact q1 _ _ PP (a3.trans (L1.trans LP)) (by rw [RV]; exact ⟨hn1, by show V.ref p = V.ref (w1.m _); rw [hm]⟩)
end
end PyA
end
section
set_option Elab.async false
set_option linter.all false
set_option maxRecDepth 100000
set_option maxHeartbeats 4000000
/-! PyNF: len of any dict, len(set(xs)) with repeats, min of data, tuple as it stands. -/
namespace PyN
open PySem PySem.Spec PyProof.Rows L2
section
variable {prog : Program} {w : World} {A : Around} {E : Value → Shared → Prop} {s : Shared} {d : Addr}
theorem meets_len_raw (hd : (d == sysModules) = false) :
    MeetsIn prog w (Builtin.«dict.__len__» ⟨[.ref d], []⟩) (fun _ R s => ∃ (o : Obj) (es : Array DictEntry) (ep : Nat), s.heap.get? d = some o ∧ o.data = .dict es ep ∧ R (.ok (.ret (.int es.size s.toks))) { s with toks := s.toks + 1 }) :=
  .of_wp fun A R s ⟨o, es, ep, ho, hdat, h⟩ => by
    show wpAny _ _ (dictSize d >>= _) _ _ s
    unfold dictSize
    refine wpAny_bind (wpAny_bind (wpAny_dictEntries ho hdat (wpAny_pure ?_)))
    show wpAny _ _ (Builtin.Dict.pendingCount d >>= _) _ _ s
    refine wpAny_bind (wpAny_pendingCount_other hd ?_)
    refine wpAny_ret_mkInt ?_
    rw [Nat.add_zero]; exact h
theorem len_raw {o : Obj} {es : Array DictEntry} {ep : Nat} {Q : Value → Shared → Prop} (hd : (d == sysModules) = false) (ho : s.heap.get? d = some o) (hx : o.ExactDict) (hdat : o.data = .dict es ep) (hfit : (es.size : Int) < 2 ^ 63)
    (h : Q (.int es.size (s.toks + 1)) { s with toks := s.toks + 1 + 1 }) : wpAny (model prog w) A (call (.builtin "len") [.ref d]) Q E s := by
  have hT : s.TypeIs (.ref d) "dict" := ⟨o, ho, hx.1⟩
  refine Calls.call_function_entry kind_len plain_len entry_len (args_len1 _) ?_
  unfold Builtin.«len»
  refine wpAny_bind (m := oneArg "len" _) (wpAny_pure ?_)
  refine wpAny_bind (m := callSpecial? (.ref d) (Str.ofString "__len__")) (wpAny_callSpecial?_slot (name := Str.ofString "__len__") hT PySem.F.slot_dict_len
    (call_meetsIn PySem.F.slot_dict_len hT PySem.F.entry_dict_len (PySem.F.args_dict_len_1 _) (meets_len_raw hd) ⟨o, es, ep, ho, hdat, ?_⟩))
  show wpAny _ _ _ _ _ { s with toks := s.toks + 1 }
  refine wpAny_bind (wpAny_holding (wpAny_pure ?_))
  refine wpAny_bind (wpAny_letGo ?_)
  show wpAny _ _ (if ((es.size : Nat) : Int) < 0 then _ else _) _ _ _
  rw [if_neg (by omega)]
  show wpAny _ _ (if ((es.size : Nat) : Int) ≥ 2 ^ 63 then _ else _) _ _ _
  rw [if_neg (by omega)]
  exact wpAny_bind (wpAny_mkInt (wpAny_pure ⟨_, rfl, h⟩))
end
section
variable {X : Cx}
theorem call_lenD : CallR X (.builtin "len") (fun xs H Q => ∃ (a : Addr) (n : Nat), xs = [.ref a] ∧ ((∃ kvs, Rd H a (.dK kvs) ∧ n = kvs.length) ∨ ∃ kvs, Rd H a (.dT kvs) ∧ n = kvs.length) ∧ Q (.int (n : Nat)) H) := by
  intro pins s σ H xs us Q I r h
  obtain ⟨a, n, ex, hq, q⟩ := h
  subst ex
  obtain ⟨u, rfl, rx⟩ := vals1 r
  cases (show u = Value.ref a from rx)
  rcases hq with ⟨kvs, e, en⟩ | ⟨kvs, e, en⟩
  · subst en
    exact d_len I e fun t s' I2 => ⟨.int (kvs.length : Nat), H, I2, ⟨t, rfl⟩, q⟩
  · subst en
    obtain ⟨z, hd, xs, kt, o, es, ep, h1, h2, h3, h4, _⟩ := dt_rd I.hok e
    have hs : es.size = kvs.length := by
      have l1 : es.size = xs.length := size_of_entries h4
      have l2 : kvs.length = xs.length := Paired.length kt
      omega
    refine len_raw hd h1 h2 h3 (by rw [hs]; rw [sizeLine_eq] at z; omega) ?_
    exact ⟨.int (kvs.length : Nat), H, I.tok _, ⟨s.toks + 1, by rw [hs]⟩, q⟩
/-- how many of these ints there are, each once -/
def manyI (ns : List Int) : Nat := (firstMet (fun i => ns.getD i 0) ns.length).length
def tLenSet (K : PySem.W.Frag) (ta : TE) : TE := fun σ H Q => ta σ H fun x H1 => ∃ (l : Addr) (ns : List Int), x = .ref l ∧ SqL K H1 l (ns.map V.int) ∧ ns.length ≤ 4000 ∧ Q (.int (manyI ns : Nat)) H1
theorem firstMet_len (f : Nat → Int) : ∀ n, (firstMet f n).length ≤ n
  | 0 => Nat.le_refl _
  | n + 1 => by
    rw [firstMet_succ]
    have ih := firstMet_len f n
    unfold step_dedup
    split
    · omega
    · rw [List.length_append, List.length_singleton]; omega
theorem pe_lenSet {a : Expr} {ta : TE} {p p2 q pos : Pos} (hg : Gl X "len") (hm : X.mg "len" = none) (hg2 : Gl X "set") (hm2 : X.mg "set" = none) (ha : PE X a ta) (hc : X.calm = true)
    (na : starEach [a] X.env = (false, eval a X.env) :: starEach [] X.env := by rfl) : PE X (.Call (.Name "len" p) [.Call (.Name "set" p2) [a] [] q] [] pos) (tLenSet X.K ta) := by
  refine ⟨fun pins s σ H Q I h => ?_⟩
  refine Call_ (ld_blt I hg hm boot_len ?_)
  refine PyProof.Rows.callWith_builtin1 (PyProof.Rows.args_cons ?_ rfl) rfl rfl
  refine Call_ (ld_blt I hg2 hm2 boot_set ?_)
  refine PyProof.Rows.callWith_type1 (PyProof.Rows.args_cons (thn (ha.run pins s σ H _ I h) fun v s1 ⟨x, H1, I1, r1, q1⟩ => PyProof.Rows.args_nil ?_) na) na rfl
  obtain ⟨l, ns, rfl, hq, hl, q1⟩ := q1
  cases r1
  obtain ⟨its, r, pl, hz⟩ := I1.list hq
  have hlen : its.toArray.size = ns.length := by rw [List.size_toArray, ← r.length, List.length_map]
  refine call_set_list (I1.ok.hd hc) pl.isList (by simpa using RZ.intsAre_vals r) (by rw [hlen]; unfold scanBound; omega) fun h' tk hS hk => ?_
  refine PyProof.Rows.args_nil ?_
  rw [hlen] at hS
  obtain ⟨o, es, ep, t, ho, hex, hd, _, _, _, hf, hn⟩ := hS
  have I2 : Inv X pins σ H1 { s1 with heap := h', toks := tk } := I1.kept fun b o e => hk b o (Heap.lt_size e) e
  have hfm := firstMet_len (fun i => ns.getD i 0) ns.length
  exact call_len_set ho hex hd hf (by rw [hn] <;> omega) ⟨.int (manyI ns : Nat), H1, I2.tok _, ⟨_, by rw [hn]; rfl⟩, q1⟩
/-- min of a list of alike data: one of the items, and what it is -/
theorem call_minD (hc : X.calm = true) : CallR X (.builtin "min") (fun vs H Q => ∃ (l : Addr) (xs : List V) (d : PyData) (ds : List PyData), vs = [.ref l] ∧ SqL X.K H l xs ∧ DpAll X.K H xs (d :: ds) ∧ PySem.W.AlikeAll (d :: ds) ∧ PyData.canLayAll0 (d :: ds) = true ∧ X.A.units + 1 + PyData.depthAll (d :: ds) < cLine ∧
    ∀ (i : Nat) (x : V), xs[i]? = some x → (d :: ds)[i]? = some (PySem.W.minD d ds) → Q x H) := by
  intro pins s σ H vs us Q I r h
  obtain ⟨l, xs, d, ds, ex, hq, hD, hal, hcl, hu, q⟩ := h
  subst ex
  obtain ⟨u, rfl, rx⟩ := vals1 r
  cases (show u = Value.ref l from rx)
  obtain ⟨its, rv, pl, hz⟩ := I.list hq
  obtain ⟨as, rs⟩ := Dp.readsAll I (d :: ds) xs its hD rv
  refine PySem.W.min_list_data (vs := its.toArray) (I.ok.hd hc) pl.isList rs hal hu fun i v h' tk bs hv hr hk => ?_
  have hv : its[i]? = some v := by rw [← hv]; simp
  have hil := (List.getElem?_eq_some_iff.mp hv).1
  have hxl : i < xs.length := by rw [rv.length]; exact hil
  have I2 : Inv X pins σ H { s with heap := h', toks := tk } := I.kept hk
  obtain ⟨u, hu1, hu2⟩ := rv.get (List.getElem?_eq_getElem hxl)
  rw [hv] at hu1
  cases hu1
  refine ⟨_, H, I2, hu2, q i _ (List.getElem?_eq_getElem hxl) ?_⟩
  obtain ⟨as2, rs2⟩ := Dp.readsAll I2 (d :: ds) xs its hD rv
  have hm := SeqAt.readsAll_map (d :: ds) its as2 hcl rs2
  have e1 : (its.map (SeqAt.readOf h'))[i]? = (d :: ds)[i]? := by
    have := congrArg (fun l : List PyData => l[i]?) hm
    exact this
  rw [List.getElem?_map, hv] at e1
  rw [← e1]
  show some (SeqAt.readOf h' v) = _
  have hlen : its.length = (d :: ds).length := by rw [← hm, List.length_map]
  have hmem : ∃ e ∈ (d :: ds), SeqAt.readOf h' v = e := ⟨_, List.mem_of_getElem? e1.symm, rfl⟩
  have hcm : (PySem.W.minD d ds).canLay0 = true := by
    have all : ∀ (es : List PyData), PyData.canLayAll0 es = true → ∀ e ∈ es, e.canLay0 = true := by
      intro es
      induction es with
      | nil => intro _ e he; cases he
      | cons a as ih =>
        intro hc e he
        have hc : (a.canLay0 && PyData.canLayAll0 as) = true := hc
        rw [Bool.and_eq_true] at hc
        rcases List.mem_cons.mp he with rfl | he
        · exact hc.1
        · exact ih hc.2 e he
    have mem : ∀ (es : List PyData) (e : PyData), PySem.W.minD e es ∈ e :: es := by
      intro es
      induction es with
      | nil => intro e; exact List.mem_cons_self
      | cons a as ih =>
        intro e
        have := ih (if PySem.W.dataLt a e then a else e)
        have e2 : PySem.W.minD e (a :: as) = PySem.W.minD (if PySem.W.dataLt a e then a else e) as := rfl
        rw [e2]
        rcases List.mem_cons.mp this with z | z
        · rw [z]
          split
          · exact List.mem_cons_of_mem _ List.mem_cons_self
          · exact List.mem_cons_self
        · exact List.mem_cons_of_mem _ (List.mem_cons_of_mem _ z)
    exact all _ hcl _ (mem ds d)
  exact congrArg some (SeqAt.readOf_eq hcm hr)
/-- tuple(a list): the new tuple's own object is known -/
theorem call_tupleF : CallR X (.type "tuple") (fun xs H Q => ∃ p ys, xs = [.ref p] ∧ SqL X.K H p ys ∧ ∀ l od, od.dict = none → H l = none → Q (.ref l) (upd H l (.frz od (.tup ys)))) := by
  intro pins s σ H xs us Q I r h
  obtain ⟨p, ys, rfl, hq, q⟩ := h
  obtain ⟨u, rfl, rx⟩ := vals1 r
  cases rx
  obtain ⟨its, r', pl, hz⟩ := I.list hq
  have hlen := r'.length
  refine call_tuple_list pl.isList (fun h' kp => ?_) (by simp only [List.size_toArray] <;> omega)
  have I1 : Inv X pins σ H { s with heap := h' } := I.kept (t' := s.toks) kp
  have I2 : Inv X pins σ (upd H h'.objs.size (.frz { cls := .type "tuple", data := .seq its.toArray } (.tup ys))) { s with heap := h'.push { cls := .type "tuple", data := .seq its.toArray } } :=
    I1.laid (t' := s.toks) (fun b o e => Heap.get?_push_of_some _ e) (Nat.le_refl _) ⟨Heap.get?_push_size _ rfl, hz, its, r', IsTup.new _ _⟩
  exact ⟨.ref h'.objs.size, _, I2, rfl, q _ _ rfl (I1.hok.fresh (Nat.le_refl _))⟩
/-- t.index(x), t such a tuple -/
def tTupIx (K : PySem.W.Frag) (to te : TE) : TE := fun σ H Q => to σ H fun x H1 => (∃ a od vs, x = .ref a ∧ H1 a = some (.frz od (.tup vs)) ∧ od.dict = none) ∧ te σ H1 fun y H2 => ∃ (a : Addr) (vs : List V) (d : PyData) (ds : List PyData) (j : Nat) (z : PyData), x = .ref a ∧ SqT K H2 a vs ∧ DpAll K H2 vs ds ∧ Dp K H2 y d ∧
  SeqAt.shaped (.list ds) = true ∧ SeqAt.shaped d = true ∧ ds[j]? = some z ∧ PyData.eqv z d = true ∧ (∀ (m : Nat) (z' : PyData), m < j → ds[m]? = some z' → PyData.eqv z' d = false) ∧ Q (.int (j : Nat)) H2
theorem pe_tupIndex {o e : Expr} {to te : TE} {apos cpos : Pos} (hu : X.A.units + 65 < cLine) (ho : PE X o to) (he : PE X e te)
    (hbase : attributeBase o "index" X.env (eval o X.env) = eval o X.env := by rfl)
    (hline : (apos.endLine == cpos.line) = true := by rfl) (hs : backTo cpos (starEach [e] X.env) = [(false, eval e X.env)] := by rfl) : PE X (.Call (.Attribute o "index" apos) [e] [] cpos) (tTupIx X.K to te) := by
  refine ⟨fun pins s σ H Q I h => ?_⟩
  refine wpAny_Call_method1_late hbase hline hs (thn (ho.run pins s σ H _ I h) fun v s1 ⟨x, H1, I1, r1, ⟨a, od, vs, ex, ha, hd⟩, q1⟩ => ?_)
  subst ex
  cases (show v = Value.ref a from r1)
  obtain ⟨hg, z, its, rv, o', ho', hc', _⟩ := I1.hok a _ ha
  rw [hg] at ho'
  cases ho'
  refine ⟨"tuple", "tuple.index", PySem.F.plainAttrs_tuple, PySem.F.slot_tuple_index, PySem.F.type_tuple_index, ⟨od, hg, hc'⟩, fun b e => ?_, ?_⟩
  · cases e
    exact ⟨od, hg, hd⟩
  refine Calls.callWith_builtin rfl (Calls.evalArgs_plain ?_)
  refine Calls.spliced_cons (thn (he.run pins s1 σ H1 _ I1 q1) fun u s2 ⟨y, H2, I2, r2, a2, us, d, ds, j, zz, ex, hq, hD, hy, sl, sd, hz, hzj, hno, q2⟩ => Calls.spliced_nil ?_)
  cases ex
  obtain ⟨its2, rv2, ht, hz2⟩ := I2.tuple hq
  obtain ⟨as, rs⟩ := Dp.readsAll I2 ds us its2 hD rv2
  obtain ⟨bs, rx⟩ := Dp.reads I2 d y u hy r2
  have hxs : PyData.canLayAll0 ds = true := SeqAt.canLay_of_shaped sl
  have hroom : X.A.units + 1 + min (PyData.depthAll ds) d.depth < cLine := room_in_shaped sd hu
  have hmap : its2.map (SeqAt.readOf s2.heap) = ds := SeqAt.readsAll_map ds its2 as hxs rs
  have hlen : its2.length = ds.length := by rw [← hmap, List.length_map]
  have eqs := SeqAt.items_eqAt (A := X.A) (vs := its2.toArray) (show ReadsAll s2.heap its2.toArray.toList ds as from rs) rx hxs (SeqAt.canLay_of_shaped sd) hroom
  have items : SeqAt.ItemsEq X.A.in1 s2 its2 (ds.map fun z => PyData.eqv z d) u true := by
    refine ⟨by rw [List.length_map, hlen], fun m h1 h2 => ?_⟩
    have e1 := eqs its2[m] (by simp)
    have e2 : SeqAt.readOf s2.heap its2[m] = ds[m]'(by rw [← hlen]; exact h1) := by
      have : (its2.map (SeqAt.readOf s2.heap))[m]'(by rw [List.length_map]; exact h1) = ds[m]'(by rw [← hlen]; exact h1) := by
        congr 1
      rw [← this, List.getElem_map]
    rw [e2] at e1
    have e3 : decide ((ds.map fun z => PyData.eqv z d)[m]'h2 = true) = PyData.eqv (ds[m]'(by rw [← hlen]; exact h1)) d := by
      rw [List.getElem_map]
      cases PyData.eqv (ds[m]'(by rw [← hlen]; exact h1)) d <;> rfl
    rw [e3]
    exact e1
  have hjl := (List.getElem?_eq_some_iff.mp hz)
  have hmem : true ∈ ds.map fun z => PyData.eqv z d := List.mem_map.mpr ⟨zz, List.mem_of_getElem? hz, hzj⟩
  have hix : (ds.map fun z => PyData.eqv z d).idxOf true = j := by
    obtain ⟨h1, h2⟩ := hjl
    have hl : j < (ds.map fun z => PyData.eqv z d).length := by rw [List.length_map]; exact h1
    have e1 : (ds.map fun z => PyData.eqv z d)[j] = true := by rw [List.getElem_map, h2]; exact hzj
    have hi := List.idxOf_lt_length_iff.mpr hmem
    have e3 := List.getElem_idxOf hi
    refine Nat.le_antisymm ?_ (Nat.le_of_not_lt fun hlt => ?_)
    · refine Nat.le_of_not_lt fun hlt => ?_
      have := List.not_of_lt_findIdx (p := fun b => b == true) (xs := ds.map fun z => PyData.eqv z d) (i := j) hlt
      rw [e1] at this
      exact absurd this (by decide)
    · have hi2 : (ds.map fun z => PyData.eqv z d).idxOf true < ds.length := by rw [List.length_map] at hi; exact hi
      have := hno _ (ds[(ds.map fun z => PyData.eqv z d).idxOf true]) hlt (List.getElem?_eq_getElem hi2)
      rw [List.getElem_map] at e3
      rw [e3] at this
      cases this
  refine SeqAt.call_tuple_index (show s2.heap.IsTuple a its2.toArray from ht) items hmem ?_
  rw [hix]
  exact ⟨.int (j : Nat), H2, I2.tok _, ⟨_, rfl⟩, q2⟩
end
end PyN
end
section
set_option Elab.async false
set_option linter.all false
set_option maxRecDepth 100000
set_option maxHeartbeats 4000000
/-! PyF: calls of built-ins. -/
namespace PyA
open PySem L2 PySem.Spec PyProof.Rows
section
variable {X : Cx} {T : NTabs} {W : WX} {e a b c : Expr} {pos p : Pos} {K : PySem.W.Frag} {w : Wd} {h : Hh}
/-! ### what may be read as a sequence -/
/-- the items of a list or a tuple -/
def itemsOf (h : Hh) : PV → Option (List PV)
  | .tup xs => some xs
  | .ftp xs => some xs
  | .fls xs => some xs
  | .loc l => match h[l]? with
    | some (.lst xs) => some xs
    | _ => none
  | _ => none
def isTupPV : PV → Bool
  | .tup _ => true
  | .ftp _ => true
  | _ => false
theorem items_rv (R : Rel K T w h) {x : PV} {v : V} {xs : List PV} (r : RV K w x v) (e : itemsOf h x = some xs) : ∃ a vs, v = .ref a ∧ RVs K w xs vs ∧ ((isTupPV x = true ∧ SqT K w.H a vs) ∨ (isTupPV x = false ∧ SqL K w.H a vs)) := by
  cases x with
  | tup ys =>
    cases e
    rw [RV] at r
    obtain ⟨a, vs, e1, e2, e3⟩ := r
    exact ⟨a, vs, e1, e3, .inl ⟨rfl, e2.sq⟩⟩
  | ftp ys =>
    cases e
    rw [RV] at r
    obtain ⟨a, vs, od, e1, off, e2, hd, e3⟩ := r
    exact ⟨a, vs, e1, e3, .inl ⟨rfl, .inl (.inr ⟨od, e2⟩)⟩⟩
  | fls ys =>
    cases e
    rw [RV] at r
    obtain ⟨a, vs, e1, e2, e3⟩ := r
    exact ⟨a, vs, e1, e3, .inr ⟨rfl, e2.sq⟩⟩
  | loc l =>
    have e : (match h[l]? with
      | some (.lst xs) => some xs
      | _ => none) = some xs := e
    cases q : h[l]? with
    | none => rw [q] at e; cases e
    | some c =>
      rw [q] at e
      cases c with
      | lst ys =>
        cases e
        obtain ⟨vs, e1, e2, e3⟩ := at_list R r q
        exact ⟨_, vs, e1, e3, .inr ⟨rfl, .of e2⟩⟩
      | _ => cases e
  | _ => cases e
/-! ### len -/
def nLenRun (xs : List PV) (h : Hh) (Q : QV) : Prop := ∃ x, xs = [x] ∧ ((∃ ys, itemsOf h x = some ys ∧ Q (.int (ys.length : Nat)) h) ∨ (∃ z, x = .str z ∧ z.length ≤ sizeLine ∧ Q (.int (z.length : Nat)) h) ∨ ∃ l lk kvs, x = .loc l ∧ h[l]? = some (.dic lk kvs) ∧ Q (.int (kvs.length : Nat)) h)
def nLen : AON := ⟨nLenRun, fun ⟨x, e, q⟩ f => ⟨x, e, q.elim (fun ⟨ys, a, q⟩ => .inl ⟨ys, a, f _ _ q⟩) fun q => .inr (q.elim (fun ⟨z, a, b, q⟩ => .inl ⟨z, a, b, f _ _ q⟩) fun ⟨l, lk, kvs, a, b, q⟩ => .inr ⟨l, lk, kvs, a, b, f _ _ q⟩)⟩⟩
theorem ca_len : CaS X T (.builtin "len") nLen := callImp (CallR.or call_len_seq (CallR.or call_len_str PyN.call_lenD)) fun vs H Q ⟨w, h, xs, e0, R, r, x, ex, q⟩ => by
  subst e0 ex
  obtain ⟨v, ev, r1⟩ := rvs1 r
  subst ev
  rcases q with ⟨ys, hi, q⟩ | ⟨z, ez, hz, q⟩ | ⟨l, lk, kvs, ex, hl, q⟩
  · obtain ⟨a, us, e1, r2, hq⟩ := items_rv R r1 hi
    subst e1
    refine .inl ⟨a, us, rfl, hq.elim (fun z => .inr z.2) fun z => .inl z.2, ?_⟩
    rw [← r2.length]
    exact q w _ R (Wd.Le.refl w) rv_int
  · subst ez
    rw [RV] at r1
    subst r1
    exact .inr (.inl ⟨z, rfl, hz, q w _ R (Wd.Le.refl w) rv_int⟩)
  · subst ex
    rw [RV] at r1
    rw [r1.2]
    refine .inr (.inr ⟨_, kvs.length, rfl, ?_, q w _ R (Wd.Le.refl w) rv_int⟩)
    have go : ∀ {o}, Rd w.H (w.m l) o → DicR X.K w kvs o → (∃ kv, Rd w.H (w.m l) (.dK kv) ∧ kvs.length = kv.length) ∨ ∃ kv, Rd w.H (w.m l) (.dT kv) ∧ kvs.length = kv.length := by
      intro o ho d
      rcases d with ⟨ys, e, d⟩ | ⟨ys, e, d⟩
      · subst e; exact .inl ⟨ys, ho, d.length⟩
      · subst e; exact .inr ⟨ys, ho, d.length⟩
    cases lk with
    | false => obtain ⟨o, ho, d⟩ := R.cell _ _ hl; exact go (.inl ho) d
    | true => obtain ⟨od, o, ho, d⟩ := R.cell _ _ hl; exact go (.inr ⟨od, ho⟩) d
/-! ### numbers -/
def nF1 (f : PV → Option PV) : AON := ⟨fun xs h Q => ∃ x y, xs = [x] ∧ f x = some y ∧ Q y h, fun ⟨x, y, a, b, q⟩ g => ⟨x, y, a, b, g _ _ q⟩⟩
def fAbs : PV → Option PV
  | .int i => some (.int (if i < 0 then -i else i))
  | _ => none
def fInt : PV → Option PV
  | .int i => some (.int i)
  | .bl k => some (.int (if k then 1 else 0))
  | _ => none
theorem ca_abs : CaS X T (.builtin "abs") (nF1 fAbs) := callImp call_abs fun vs H Q ⟨w, h, xs, e0, R, r, x, y, ex, ef, q⟩ => by
  subst e0 ex
  obtain ⟨v, ev, r1⟩ := rvs1 r
  subst ev
  cases x with
  | int i => cases ef; rw [RV] at r1; subst r1; exact ⟨i, rfl, q w _ R (Wd.Le.refl w) rv_int⟩
  | _ => cases ef
theorem ca_int : CaS X T (.type "int") (nF1 fInt) := callImp call_int1 fun vs H Q ⟨w, h, xs, e0, R, r, x, y, ex, ef, q⟩ => by
  subst e0 ex
  obtain ⟨v, ev, r1⟩ := rvs1 r
  subst ev
  cases x with
  | int i => cases ef; rw [RV] at r1; subst r1; exact .inl ⟨i, rfl, q w _ R (Wd.Le.refl w) rv_int⟩
  | bl i => cases ef; rw [RV] at r1; subst r1; exact .inr ⟨i, rfl, q w _ R (Wd.Le.refl w) rv_int⟩
  | _ => cases ef
def nI2 (f : Int → Int → Int) : AON := ⟨fun xs h Q => ∃ i j, xs = [.int i, .int j] ∧ Q (.int (f i j)) h, fun ⟨i, j, a, q⟩ g => ⟨i, j, a, g _ _ q⟩⟩
theorem ca_min2 (hc : X.calm = true) : CaS X T (.builtin "min") (nI2 fun i j => if j < i then j else i) := callImp (call_min2 hc) fun vs H Q ⟨w, h, xs, e0, R, r, i, j, ex, q⟩ => by
  subst e0 ex
  obtain ⟨v, u, ev, r1, r2⟩ := rvs2 r
  subst ev
  rw [RV] at r1
  rw [RV] at r2
  subst r1 r2
  exact ⟨i, j, rfl, q w _ R (Wd.Le.refl w) rv_int⟩
theorem ca_max2 (hc : X.calm = true) : CaS X T (.builtin "max") (nI2 fun i j => if j > i then j else i) := callImp (call_max2 hc) fun vs H Q ⟨w, h, xs, e0, R, r, i, j, ex, q⟩ => by
  subst e0 ex
  obtain ⟨v, u, ev, r1, r2⟩ := rvs2 r
  subst ev
  rw [RV] at r1
  rw [RV] at r2
  subst r1 r2
  exact ⟨i, j, rfl, q w _ R (Wd.Le.refl w) rv_int⟩
/-! ### lists of ints, of truths -/
theorem rvs_ints : ∀ {ns : List Int} {vs : List V}, RVs K w (ns.map PV.int) vs → vs = ns.map V.int
  | [], vs, r => by rw [List.map_nil, RVs] at r; exact r
  | n :: ns, vs, r => by
    rw [List.map_cons, RVs] at r
    obtain ⟨v, t, e, r1, r2⟩ := r
    rw [RV] at r1
    rw [e, r1, rvs_ints r2]
    rfl
theorem rvs_ints_of : ∀ ns : List Int, RVs K w (ns.map PV.int) (ns.map V.int)
  | [] => RVs.nil
  | n :: ns => RVs.cons rv_int (rvs_ints_of ns)
theorem rvs_bls : ∀ {ns : List Bool} {vs : List V}, RVs K w (ns.map PV.bl) vs → vs = ns.map V.bl
  | [], vs, r => by rw [List.map_nil, RVs] at r; exact r
  | n :: ns, vs, r => by
    rw [List.map_cons, RVs] at r
    obtain ⟨v, t, e, r1, r2⟩ := r
    rw [RV] at r1
    rw [e, r1, rvs_bls r2]
    rfl
/-- f of a list of ints -/
def nLI (P : List Int → Prop) (f : List Int → Int) : AON := ⟨fun xs h Q => ∃ (x : PV) (ns : List Int), xs = [x] ∧ isTupPV x = false ∧ itemsOf h x = some (ns.map PV.int) ∧ P ns ∧ Q (.int (f ns)) h, fun ⟨x, ns, a, b, c, d, q⟩ g => ⟨x, ns, a, b, c, d, g _ _ q⟩⟩
theorem li_of {f : Value} {r : List V → Hp → VK → Prop} {P : List Int → Prop} {g : List Int → Int} (hr : CallR X f r) (k : ∀ (a : Addr) (ns : List Int) (H : Hp) (Q : VK), SqL X.K H a (ns.map V.int) → P ns → Q (.int (g ns)) H → r [.ref a] H Q) : CaS X T f (nLI P g) := callImp hr fun vs H Q ⟨w, h, xs, e0, R, r, x, ns, ex, ht, hi, hp, q⟩ => by
  subst e0 ex
  obtain ⟨v, ev, r1⟩ := rvs1 r
  subst ev
  obtain ⟨a, us, e1, r2, hq⟩ := items_rv R r1 hi
  subst e1
  rw [rvs_ints r2] at hq
  rcases hq with ⟨z, _⟩ | ⟨_, hq⟩
  · rw [ht] at z; cases z
  · exact k a ns _ _ hq hp (q w _ R (Wd.Le.refl w) rv_int)
theorem ca_sum (hc : X.calm = true) : CaS X T (.builtin "sum") (nLI (fun _ => True) List.sum) := li_of (cr_sum hc) fun a ns H Q hq _ q => ⟨a, ns, rfl, hq, q⟩
/-- all, any -/
def nLB (f : List Bool → Bool) : AON := ⟨fun xs h Q => ∃ (x : PV) (bs : List Bool), xs = [x] ∧ isTupPV x = false ∧ itemsOf h x = some (bs.map PV.bl) ∧ Q (.bl (f bs)) h, fun ⟨x, ns, a, b, c, q⟩ g => ⟨x, ns, a, b, c, g _ _ q⟩⟩
theorem lb_of {f : Value} {r : List V → Hp → VK → Prop} {g : List Bool → Bool} (hr : CallR X f r) (k : ∀ (a : Addr) (ns : List Bool) (H : Hp) (Q : VK), SqL X.K H a (ns.map V.bl) → Q (.bl (g ns)) H → r [.ref a] H Q) : CaS X T f (nLB g) := callImp hr fun vs H Q ⟨w, h, xs, e0, R, r, x, ns, ex, ht, hi, q⟩ => by
  subst e0 ex
  obtain ⟨v, ev, r1⟩ := rvs1 r
  subst ev
  obtain ⟨a, us, e1, r2, hq⟩ := items_rv R r1 hi
  subst e1
  rw [rvs_bls r2] at hq
  rcases hq with ⟨z, _⟩ | ⟨_, hq⟩
  · rw [ht] at z; cases z
  · exact k a ns _ _ hq (q w _ R (Wd.Le.refl w) rv_bl)
theorem ca_all (hc : X.calm = true) : CaS X T (.builtin "all") (nLB fun bs => bs.all id) := lb_of (cr_all hc) fun a ns H Q hq q => ⟨a, ns, rfl, hq, q⟩
theorem ca_any (hc : X.calm = true) : CaS X T (.builtin "any") (nLB fun bs => bs.any id) := lb_of (cr_any hc) fun a ns H Q hq q => ⟨a, ns, rfl, hq, q⟩
/-- sorted of ints: a new list -/
def nSort : AON := ⟨fun xs h Q => ∃ (x : PV) (ns : List Int), xs = [x] ∧ isTupPV x = false ∧ itemsOf h x = some (List.map PV.int ns) ∧ ns.length < 64 ∧ ∀ ns' : List Int, ns'.Perm ns → ns'.Pairwise (· ≤ ·) → Q (.loc h.length) (h ++ [.lst (ns'.map PV.int)]), fun ⟨x, ns, a, b, c, d, q⟩ g => ⟨x, ns, a, b, c, d, fun ns' h1 h2 => g _ _ (q ns' h1 h2)⟩⟩
theorem ca_sorted : CaS X T (.builtin "sorted") nSort := callImp cr_sorted fun vs H Q ⟨w, h, xs, e0, R, r, x, ns, ex, ht, hi, h64, q⟩ => by
  subst e0 ex
  obtain ⟨v, ev, r1⟩ := rvs1 r
  subst ev
  obtain ⟨a, us, e1, r2, hq⟩ := items_rv R r1 hi
  subst e1
  rw [rvs_ints r2] at hq
  rcases hq with ⟨z, _⟩ | ⟨_, hq⟩
  · rw [ht] at z; cases z
  · refine ⟨a, ns, rfl, hq, h64, fun ns' p h1 h2 hp => ?_⟩
    obtain ⟨a1, a2, a3⟩ := newLst (T := T) R hp (rvs_ints_of ns')
    exact q ns' h1 h2 _ _ a1 a2 a3
/-! ### list(x), tuple(x) -/
def nList : AON := ⟨fun xs h Q => ∃ (x : PV) (ys : List PV), xs = [x] ∧ itemsOf h x = some ys ∧ Q (.loc h.length) (h ++ [.lst ys]), fun ⟨x, ns, a, b, q⟩ g => ⟨x, ns, a, b, g _ _ q⟩⟩
theorem ca_list : CaS X T (.type "list") nList := callImp call_list_of fun vs H Q ⟨w, h, xs, e0, R, r, x, ys, ex, hi, q⟩ => by
  subst e0 ex
  obtain ⟨v, ev, r1⟩ := rvs1 r
  subst ev
  obtain ⟨a, us, e1, r2, hq⟩ := items_rv R r1 hi
  subst e1
  refine ⟨a, us, rfl, hq.elim (fun z => .inr z.2) fun z => .inl z.2, fun p hp => ?_⟩
  obtain ⟨a1, a2, a3⟩ := newLst (T := T) R hp r2
  exact q _ _ a1 a2 a3
def nTuple : AON := ⟨fun xs h Q => ∃ (x : PV) (ys : List PV), xs = [x] ∧ itemsOf h x = some ys ∧ if isTupPV x = true then Q x h else Q (.tup ys) h, fun ⟨x, ys, a, b, q⟩ g => ⟨x, ys, a, b, by
  split
  · rw [if_pos (by assumption)] at q; exact g _ _ q
  · rw [if_neg (by assumption)] at q; exact g _ _ q⟩⟩
theorem ca_tuple : CaS X T (.type "tuple") nTuple := callImp call_tuple_of fun vs H Q ⟨w, h, xs, e0, R, r, x, ys, ex, hi, q⟩ => by
  subst e0 ex
  obtain ⟨v, ev, r1⟩ := rvs1 r
  subst ev
  obtain ⟨a, us, e1, r2, hq⟩ := items_rv R r1 hi
  have r1' := r1
  subst e1
  refine ⟨a, us, rfl, ?_⟩
  rcases hq with ⟨t, hq⟩ | ⟨t, hq⟩
  · rw [if_pos t] at q
    exact .inr ⟨hq, q w _ R (Wd.Le.refl w) r1'⟩
  · rw [if_neg (by rw [t]; exact Bool.false_ne_true)] at q
    refine .inl ⟨hq, fun p hp => ?_⟩
    obtain ⟨a1, a2, a3⟩ := newTup (T := T) R hp r2
    exact q _ _ a1 a2 a3
/-- tuple(x), to be asked for t.index later -/
def nTupleF : AON := ⟨fun xs h Q => ∃ (x : PV) (ys : List PV), xs = [x] ∧ isTupPV x = false ∧ itemsOf h x = some ys ∧ Q (.ftp ys) h, fun ⟨x, ys, a, b, c, q⟩ g => ⟨x, ys, a, b, c, g _ _ q⟩⟩
theorem ca_tupleF : CaS X T (.type "tuple") nTupleF := callImp PyN.call_tupleF fun vs H Q ⟨w, h, xs, e0, R, r, x, ys, ex, ht, hi, q⟩ => by
  subst e0 ex
  obtain ⟨v, ev, r1⟩ := rvs1 r
  subst ev
  obtain ⟨a, us, e1, r2, hq⟩ := items_rv R r1 hi
  subst e1
  rcases hq with ⟨z, _⟩ | ⟨_, hq⟩
  · rw [ht] at z; cases z
  · refine ⟨a, us, rfl, hq, fun p od hd hp => ?_⟩
    refine q _ (.ref p) (R.lay (o := .frz od (.tup us)) hp) (Wd.le_lay hp) ?_
    rw [RV]
    exact ⟨p, us, od, rfl, R.ne hp, upd_same, hd, r2.to (Wd.le_lay hp)⟩
/-- t.index(x), t such a tuple -/
def aTupIx (A B : AE) : AE := ⟨fun e h Q R => A.run e h (fun x h1 => ∃ xs, x = .ftp xs ∧ B.run e h1 (fun y h2 => ∃ n d ds j z, xs.mapM (dat h2 n) = some ds ∧ dat h2 n y = some d ∧ SeqAt.shaped (.list ds) = true ∧ SeqAt.shaped d = true ∧ ds[j]? = some z ∧ PyData.eqv z d = true ∧
    (∀ (m : Nat) (z' : PyData), m < j → ds[m]? = some z' → PyData.eqv z' d = false) ∧ Q (.int (j : Nat)) h2) R) R,
  fun q f g => A.mono q (fun _ _ ⟨xs, e1, q1⟩ => ⟨xs, e1, B.mono q1 (fun _ _ ⟨n, d, ds, j, z, a1, a2, a3, a4, a5, a6, a7, q2⟩ => ⟨n, d, ds, j, z, a1, a2, a3, a4, a5, a6, a7, f _ _ q2⟩) g⟩) g⟩
theorem dps_of (R : Rel K T w h) {n : Nat} : ∀ {xs : List PV} {vs : List V} {ds : List PyData}, RVs K w xs vs → xs.mapM (dat h n) = some ds → DpAll K w.H vs ds
  | [], vs, ds, r, e => by
    rw [RVs] at r
    subst r
    cases e
    exact .nil
  | y :: ys, vs, ds, r, e => by
    rw [RVs] at r
    obtain ⟨v, t, e1, r1, r2⟩ := r
    subst e1
    obtain ⟨d, rr, f1, f2, f3⟩ := mapM_cons e
    subst f3
    exact .cons (dp_of R n r1 f1) (dps_of R r2 f2)
theorem se_tupIx {A B : AE} {apos cpos : Pos} (hu : X.A.units + 65 < cLine) (ha : SE X T W a A) (hb : SE X T W b B)
    (hbase : attributeBase a "index" X.env (eval a X.env) = eval a X.env := by rfl)
    (hline : (apos.endLine == cpos.line) = true := by rfl) (hs : backTo cpos (starEach [b] X.env) = [(false, eval b X.env)] := by rfl) : SE X T W (.Call (.Attribute a "index" apos) [b] [] cpos) (aTupIx A B) :=
  peImp (PyN.pe_tupIndex hu ha hb hbase hline hs) fun σ H Q ⟨w, env, h, e, R, E, q⟩ => ⟨w, env, h, e, R, E, A.mono q (fun x h1 ⟨xs, ex, q1⟩ w1 v1 R1 L1 r1 => by
    subst ex
    rw [RV] at r1
    obtain ⟨p, vs, od, e1, off, e2, hd, r2⟩ := r1
    refine ⟨⟨p, od, vs, e1, e2, hd⟩, w1, env, h1, rfl, R1, E.to L1, B.mono q1 (fun y h2 ⟨n, d, ds, j, z, a1, a2, a3, a4, a5, a6, a7, q2⟩ w2 v2 R2 L2 r3 => ?_) fun _ _ q2 => qx_le L1 q2⟩
    exact ⟨p, vs, d, ds, j, z, e1, .inl (.inr ⟨od, L2.frz _ _ _ e2⟩), dps_of R2 (r2.to L2) a1, dp_of R2 n r3 a2, a3, a4, a5, a6, a7, q2 w2 _ R2 (L1.trans L2) rv_int⟩) fun _ _ q1 => q1⟩
/-- min of a list of alike data -/
def nMinD (u : Nat) : AON := ⟨fun xs h Q => ∃ (x : PV) (ys : List PV) (n : Nat) (d : PyData) (ds : List PyData), xs = [x] ∧ isTupPV x = false ∧ itemsOf h x = some ys ∧ ys.mapM (dat h n) = some (d :: ds) ∧ PySem.W.AlikeAll (d :: ds) ∧ PyData.canLayAll0 (d :: ds) = true ∧ u + 1 + PyData.depthAll (d :: ds) < cLine ∧
    ∀ (i : Nat) (y : PV), ys[i]? = some y → (d :: ds)[i]? = some (PySem.W.minD d ds) → Q y h,
  fun ⟨x, ys, n, d, ds, a1, a2, a3, a4, a5, a6, a7, q⟩ g => ⟨x, ys, n, d, ds, a1, a2, a3, a4, a5, a6, a7, fun i y h1 h2 => g _ _ (q i y h1 h2)⟩⟩
theorem ca_minD (hc : X.calm = true) : CaS X T (.builtin "min") (nMinD X.A.units) := callImp (PyN.call_minD hc) fun vs H Q ⟨w, h, xs, e0, R, r, x, ys, n, d, ds, ex, ht, hi, a1, a2, a3, a4, q⟩ => by
  subst e0 ex
  obtain ⟨v, ev, r1⟩ := rvs1 r
  subst ev
  obtain ⟨a, us, e1, r2, hq⟩ := items_rv R r1 hi
  subst e1
  rcases hq with ⟨z, _⟩ | ⟨_, hq⟩
  · rw [ht] at z; cases z
  · refine ⟨a, us, d, ds, rfl, hq, dps_of R r2 a1, a2, a3, a4, fun i u hu hm => ?_⟩
    have hil : i < ys.length := by rw [r2.length]; exact (List.getElem?_eq_some_iff.mp hu).1
    obtain ⟨u', h1, h2⟩ := r2.get (List.getElem?_eq_getElem hil)
    rw [hu] at h1
    cases h1
    exact q i _ (List.getElem?_eq_getElem hil) hm w u R (Wd.Le.refl w) h2
/-- dict(a list of pairs) -/
def nDictP : AON := ⟨fun xs h Q => ∃ (l : Nat) (ps : List (Key × PV)), xs = [.loc l] ∧ h[l]? = some (.lst (ps.map fun p => .tup [keyPV p.1, p.2])) ∧ Q (.loc h.length) (h ++ [.dic false (ps.foldl (fun acc p => dPut acc (.inl p.1) p.2) [])]), fun ⟨l, ps, a, b, q⟩ g => ⟨l, ps, a, b, g _ _ q⟩⟩
theorem pairs_rel : ∀ {ps : List (Key × PV)} {vs : List V}, RVs K w (ps.map fun p => PV.tup [keyPV p.1, p.2]) vs → ∃ (as : List Addr) (kvs : List (Key × V)), vs = as.map V.ref ∧ Paired (fun p kv => SqT K w.H p [kV kv.1, kv.2]) as kvs ∧
    ∀ {acc : List (DK × PV)} {ac : List (Key × V)}, KVs K w Sum.inl acc ac → KVs K w Sum.inl (ps.foldl (fun acc p => dPut acc (.inl p.1) p.2) acc) (mergeK ac kvs)
  | [], vs, r => by
    rw [List.map_nil, RVs] at r
    exact ⟨[], [], r, .nil, fun d => d⟩
  | p :: ps, vs, r => by
    rw [List.map_cons, RVs] at r
    obtain ⟨v, t, e, r1, r2⟩ := r
    rw [RV] at r1
    obtain ⟨a, us, e1, e2, e3⟩ := r1
    obtain ⟨kv, x, e4, r3, r4⟩ := rvs2 e3
    obtain ⟨as, kvs, f1, f2, f3⟩ := pairs_rel r2
    have ek : kv = kV p.1 := by
      obtain ⟨k, z⟩ := p
      cases k with
      | inl i => have r3 : RV K w (.int i) kv := r3; rw [RV] at r3; exact r3
      | inr i => have r3 : RV K w (.str i) kv := r3; rw [RV] at r3; exact r3
    refine ⟨a :: as, (p.1, x) :: kvs, by rw [e, e1, f1]; rfl, .cons ?_ f2, fun d => ?_⟩
    · rw [e4, ek] at e2; exact e2.sq
    · exact f3 (KVs.put inlI d p.1 r4)
theorem ca_dictP (hc : X.calm = true) : CaS X T (.type "dict") nDictP := callImp (call_dictP hc) fun vs H Q ⟨w, h, xs, e0, R, r, l, ps, ex, hl, q⟩ => by
  subst e0 ex
  obtain ⟨v, ev, r1⟩ := rvs1 r
  subst ev
  obtain ⟨us, e1, e2, e3⟩ := at_list R r1 hl
  obtain ⟨as, kvs, f1, f2, f3⟩ := pairs_rel e3
  subst e1
  refine ⟨_, as, kvs, rfl, .of (by rw [← f1]; exact e2), f2, fun p hp => ?_⟩
  have L := Wd.le_push (o := .dK (mergeK [] kvs)) hp
  have P := R.push (o := .dK (mergeK [] kvs)) hp (c := .dic false (ps.foldl (fun acc p => dPut acc (.inl p.1) p.2) [])) ⟨_, upd_same, .inl ⟨_, rfl, (f3 (acc := []) (ac := []) rfl).to L⟩⟩
  refine q _ _ P L ?_
  rw [RV]
  refine ⟨by show _ < w.n + 1; rw [R.len]; exact Nat.lt_succ_self _, ?_⟩
  show V.ref p = V.ref (if h.length = w.n then p else _)
  rw [if_pos R.len.symm]
/-! ### len(set(xs)) -/
def aLenSet (A : AE) : AE := ⟨fun e h Q R => A.run e h (fun x h1 => ∃ (ns : List Int), isTupPV x = false ∧ itemsOf h1 x = some (ns.map PV.int) ∧ ns.length ≤ 4000 ∧ Q (.int (PyN.manyI ns : Nat)) h1) R, fun q f g => A.mono q (fun _ _ ⟨ns, a, b, c, q1⟩ => ⟨ns, a, b, c, f _ _ q1⟩) g⟩
theorem se_lenSet {A : AE} {p2 q : Pos} (hm : X.mg "len" = none) (hm2 : X.mg "set" = none) (hc : X.calm = true) (ha : SE X T W a A) (hg : Gl X "len" := by rfl) (hg2 : Gl X "set" := by rfl)
    (na : starEach [a] X.env = (false, eval a X.env) :: starEach [] X.env := by rfl) : SE X T W (.Call (.Name "len" p) [.Call (.Name "set" p2) [a] [] q] [] pos) (aLenSet A) :=
  peImp (PyN.pe_lenSet hg hm hg2 hm2 ha hc na) fun σ H Q ⟨w, env, h, e, R, E, q⟩ => ⟨w, env, h, e, R, E, A.mono q (fun x h1 ⟨ns, t, hi, hz, q1⟩ w1 v1 R1 L1 r1 => by
    obtain ⟨a, us, e1, r2, hq⟩ := items_rv R1 r1 hi
    rw [rvs_ints r2] at hq
    rcases hq with ⟨z, _⟩ | ⟨_, hq⟩
    · rw [t] at z; cases z
    · exact ⟨a, ns, e1, hq, hz, q1 w1 _ R1 L1 rv_int⟩) fun _ _ q1 => q1⟩
/-! ### list(range(..)) -/
def aRg1 (A : AE) : AE := ⟨fun e h Q R => A.run e h (fun x h1 => ∃ n : Int, x = .int n ∧ 0 ≤ n ∧ n ≤ 16777216 ∧ Q (.loc h1.length) (h1 ++ [.lst ((List.range n.toNat).map fun i => .int (i : Nat))])) R, fun q f g => A.mono q (fun _ _ ⟨n, a, b, c, q1⟩ => ⟨n, a, b, c, f _ _ q1⟩) g⟩
theorem se_listRg1 {A : AE} {p1 p2 q1 : Pos} (hc : X.calm = true) (hm : X.mg "list" = none) (hm2 : X.mg "range" = none) (ha : SE X T W a A) (hg : Gl X "list" := by rfl) (hg2 : Gl X "range" := by rfl)
    (na : starEach [a] X.env = (false, eval a X.env) :: starEach [] X.env := by rfl) (na2 : starEach [.Call (.Name "range" p2) [a] [] q1] X.env = (false, eval (.Call (.Name "range" p2) [a] [] q1) X.env) :: starEach [] X.env := by rfl) :
    SE X T W (.Call (.Name "list" p1) [.Call (.Name "range" p2) [a] [] q1] [] pos) (aRg1 A) :=
  peImp (pe_listRg hc hg hm (prg_1 hg2 hm2 ha na) na2) fun σ H Q ⟨w, env, h, e, R, E, q⟩ => ⟨w, env, h, e, R, E, A.mono q (fun x h1 ⟨n, ex, h0, h2, q1⟩ w1 v1 R1 L1 r1 => by
    subst ex
    rw [RV] at r1
    refine ⟨n, r1, RgOk.of_le (by omega) h2 (by omega) h0, fun p hp => ?_⟩
    have e1 : (List.range n.toNat).map (fun i => V.int (i : Nat)) = rgV 0 n := by
      unfold rgV
      rw [Int.sub_zero]
      exact List.map_congr_left fun i _ => by rw [Int.zero_add]
    have r2 : RVs X.K w1 ((List.range n.toNat).map fun i => PV.int (i : Nat)) (rgV 0 n) := by
      rw [← e1]
      have := rvs_ints_of (K := X.K) (w := w1) ((List.range n.toNat).map fun i => ((i : Nat) : Int))
      rw [List.map_map, List.map_map] at this
      exact this
    obtain ⟨a1, a2, a3⟩ := newLst (T := T) R1 hp r2
    exact q1 _ _ a1 (L1.trans a2) a3) fun _ _ q1 => q1⟩
/-! ### starred -/
def aStar (A : AE) (B : AA) : AA := ⟨fun e h Q R => A.run e h (fun x h1 => ∃ xs, itemsOf h1 x = some xs ∧ B.run e h1 (fun ys h2 => Q (xs ++ ys) h2) R) R, fun q f g => A.mono q (fun _ _ ⟨xs, a, q1⟩ => ⟨xs, a, B.mono q1 (fun _ _ q2 => f _ _ q2) g⟩) g⟩
theorem sa_star {A : AE} {B : AA} {es : List Expr} (ha : SE X T W a A) (hb : SA X T W es B) (hs : starEach (.Starred a p :: es) X.env = (true, eval a X.env) :: starEach es X.env := by rfl) : SA X T W (.Starred a p :: es) (aStar A B) :=
  paImp (StX.pa_star ha hb hs) fun σ H Q ⟨w, env, h, e, R, E, q⟩ => ⟨w, env, h, e, R, E, A.mono q (fun x h1 ⟨xs, hi, q1⟩ w1 v1 R1 L1 r1 => by
    obtain ⟨p, us, e1, r2, hq⟩ := items_rv R1 r1 hi
    exact ⟨p, us, e1, hq.elim (fun z => .inl z.2) fun z => .inr z.2, w1, env, h1, rfl, R1, E.to L1, B.mono q1 (fun ys h2 q2 w2 vs R2 L2 r3 => q2 w2 _ R2 (L1.trans L2) (RVs.append (r2.to L2) r3)) fun _ _ q2 => qx_le L1 q2⟩) fun _ _ q1 => q1⟩
/-! ### never reached -/
def aBot : AE := ⟨fun _ _ _ _ => False, fun q _ _ => q⟩
theorem se_bot : SE X T W e aBot := ⟨fun pins s σ H Q I ⟨w, env, h, e, R, E, q⟩ => q.elim⟩
def sBot : AS := ⟨fun _ _ _ => False, fun q _ => q⟩
theorem ss_bot {st : Stmt} : SS X T W st sBot := ⟨fun pins s σ H D I ⟨w, env, h, e, R, E, q⟩ => q.elim⟩
end
end PyA
end
section
set_option Elab.async false
set_option linter.all false
set_option maxRecDepth 100000
set_option maxHeartbeats 4000000
/-! PyG: dict comprehensions. -/
namespace PyA
open PySem L2 PySem.Spec PyProof.Rows
section
variable {X : Cx} {T : NTabs} {W : WX} {e a b c : Expr} {pos p : Pos}
abbrev NX : QX := fun _ _ => False
def compD (g : AG) (C : AT) (A B : AE) (ok : Hh → Prop) (e : Ev) (D : Nat) (Q : QV) : List PV → Hh → Prop
  | [], h => ok h ∧ ∃ kvs, h[D]? = some (.dik kvs) ∧ Q (.loc D) (h.set D (.dic false kvs))
  | v :: vs, h => ok h ∧ g.run v e h fun e2 h2 => C.run e2 h2 (fun b h3 => if b = true then A.run e2 h3 (fun y h4 => B.run e2 h4 (fun z h5 => ∃ kvs k, dk? y = some (.inl k) ∧ h5[D]? = some (.dik kvs) ∧ kvs.length < sizeLine ∧ compD g C A B ok e D Q vs (h5.set D (.dik (dPut kvs (.inl k) z)))) NX) NX else compD g C A B ok e D Q vs h3) NX
theorem compD_mono {g : AG} {C : AT} {A B : AE} {ok : Hh → Prop} {e : Ev} {D : Nat} {Q Q' : QV} (f : ∀ v h, Q v h → Q' v h) : ∀ (vs : List PV) (h : Hh), compD g C A B ok e D Q vs h → compD g C A B ok e D Q' vs h
  | [], h, ⟨o, kvs, a, q⟩ => ⟨o, kvs, a, f _ _ q⟩
  | v :: vs, h, ⟨o, q⟩ => ⟨o, g.mono q fun e2 h2 q2 => C.mono q2 (fun b h3 q3 => by
      cases b with
      | true => exact A.mono q3 (fun y h4 q4 => B.mono q4 (fun z h5 ⟨kvs, k, a1, a2, a3, q5⟩ => ⟨kvs, k, a1, a2, a3, compD_mono f vs _ q5⟩) fun _ _ z => z) fun _ _ z => z
      | false => exact compD_mono f vs _ q3) fun _ _ z => z⟩
def aDc (it : AI) (g : AG) (C : AT) (A B : AE) (own : List Nat) : AE := ⟨fun e h Q R => it.run e h (fun J h1 => compD g C A B J.ok (wipeE e own) h1.length Q J.items (h1 ++ [.dik []])) R, fun q f k => it.mono q (fun J h1 q1 => compD_mono f _ _ q1) k⟩
theorem dc_sound {wi : AI} {g : AG} {C : AT} {A B : AE} {own : List Nat} {σ : L2.St} {H : Hp} {Q : VK} (q : tE X.K T W (aDc wi g C A B own) σ H Q) :
    tDc (tI X.K T W wi) (tG X.K T own g) (tT X.K T WN C) (tE X.K T WN A) (tE X.K T WN B) own σ H Q := by
  obtain ⟨w, env, h, e, R, E, q⟩ := q
  refine ⟨w, env, h, e, R, E, wi.mono q (fun J h1 q1 w1 JJ R1 L1 F D hD => ?_) fun _ _ q1 => q1⟩
  obtain ⟨_, R0, L0, r0⟩ := newDic (T := T) R1 hD
  have hl1 : w1.n = h1.length := R1.len
  refine ⟨fun i m H => ∃ w2 h2, w2.H = H ∧ w1.Le w2 ∧ Rel X.K T w2 h2 ∧ (w2.m h1.length = D ∧ h1.length < w2.n) ∧ m + i = J.items.length ∧
    compD g C A B J.ok (wipeE env own) h1.length (fun x h' => ∀ w' v, Rel X.K T w' h' → w.Le w' → RV X.K w' x v → Q v w'.H) (J.items.drop i) h2,
    ⟨J.items.length, _, _, rfl, L0, R0, ?_, by simp, by simpa using q1⟩, ?_⟩
  · rw [RV] at r0
    exact ⟨(V.ref.inj r0.2).symm, r0.1⟩
  rintro i m H2 ⟨w2, h2, e2, L2', R2, ⟨hD2, hn2⟩, hm, q2⟩
  subst e2
  have hok : J.ok h2 := by
    cases hd : J.items.drop i with
    | nil => rw [hd] at q2; exact q2.1
    | cons v vs => rw [hd] at q2; exact q2.1
  obtain ⟨stop, item⟩ := F i w2 h2 L2' R2 hok
  cases m with
  | zero =>
    have ei : i = J.items.length := by omega
    refine .inl ⟨stop ei, ?_⟩
    rw [ei, List.drop_length] at q2
    obtain ⟨_, kvs, hk, q2⟩ := q2
    obtain ⟨ys, b1, b2⟩ := R2.cell _ _ hk
    exact q2 w2 (.ref D) (dik_dic R2 hk b2 b1) (L1.trans L2') (by rw [RV]; exact ⟨hn2, by rw [hD2]⟩)
  | succ m =>
    have hi : i < J.items.length := by omega
    obtain ⟨go, yl⟩ := item J.items[i] (by simp [hi])
    refine .inr ⟨go, ?_⟩
    rw [List.drop_eq_getElem_cons hi] at q2
    refine ⟨fun H' => ∃ w' h', w'.H = H' ∧ w1.Le w' ∧ Rel X.K T w' h' ∧ (w'.m h1.length = D ∧ h1.length < w'.n) ∧ m + (i + 1) = J.items.length ∧ compD g C A B J.ok (wipeE env own) h1.length (fun x h' => ∀ w' v, Rel X.K T w' h' → w.Le w' → RV X.K w' x v → Q v w'.H) (J.items.drop (i + 1)) h',
      fun H' z => ⟨m, Nat.lt_succ_self m, z⟩, fun v H' y => ?_⟩
    obtain ⟨w3, e3, R3, L3, r3⟩ := yl v H' y
    have E3 : EnvR X.K w3 (wipeE env own) (L2.wipe σ own) := EnvR.wipe (E.to (L1.trans (L2'.trans L3))) own
    refine ⟨w3, wipeE env own, h2, _, e3, R3, E3, r3, g.mono q2.2 fun e4 h4 q4 w4 σ4 R4 L4 E4 B4 => ⟨?_, w4, e4, h4, rfl, R4, E4, C.mono q4 (fun k h5 q5 w5 R5 L5 => ?_) fun _ _ z => z.elim⟩⟩
    · exact wipe_same (slots_trans (slots_wipe σ own) B4)
    · cases k with
      | false => exact ⟨w5, h5, rfl, L2'.trans (L3.trans (L4.trans L5)), R5, ⟨by rw [(L3.trans (L4.trans L5)).m _ hn2]; exact hD2, Nat.lt_of_lt_of_le hn2 (L3.trans (L4.trans L5)).n⟩, by omega, q5⟩
      | true =>
        refine ⟨w5, e4, h5, rfl, R5, E4.to L5, A.mono q5 (fun yv h6 q6 w6 v6 R6 L6 r6 => ?_) fun _ _ z => z.elim⟩
        refine ⟨w6, e4, h6, rfl, R6, E4.to (L5.trans L6), B.mono q6 (fun zv h7 ⟨kvs, k, a0, a1, a2, q7⟩ w7 v7 R7 L7 r7 => ?_) fun _ _ z => z.elim⟩
        have LD : w2.Le w7 := L3.trans (L4.trans (L5.trans (L6.trans L7)))
        have hm7 : w7.m h1.length = D := by rw [LD.m _ hn2]; exact hD2
        have hn7 : h1.length < w7.n := Nat.lt_of_lt_of_le hn2 LD.n
        obtain ⟨ys, b1, b2⟩ := R7.cell _ _ a1
        rw [hm7] at b1
        refine ⟨ys, k, rv_dkL a0 r6, b1, by rw [← b2.length]; exact a2, ?_⟩
        have nf7 : ∀ od u, w7.H (w7.m h1.length) ≠ some (.frz od u) := fun od u z => by rw [hm7, b1] at z; cases z
        have LP := R7.le_put (i := h1.length) (o := .dK (putK ys k v7)) hn7 nf7
        have P := R7.put (i := h1.length) (o := .dK (putK ys k v7)) hn7 nf7 (c := .dik (dPut kvs (.inl k) zv)) ⟨_, upd_same, KVs.put inlI (b2.to LP) k (r7.to LP)⟩
        exact ⟨_, _, by show upd w7.H (w7.m h1.length) _ = _; rw [hm7], L2'.trans (LD.trans LP), P, ⟨hm7, hn7⟩, by omega, q7⟩
theorem se_dc {kx vx tg iter : Expr} {ifs : List Expr} {scope : Scope} {own : List (Str × Nat)} {it : AI} {g : AG} {C : AT} {A B : AE} (hc : X.calm = true) (hN : X.N.Nodup) (ok : BlkOk X.N X.env.scope scope own) (hi : SI X T W tg iter it)
    (hg : ∀ (s : Shared) (H : Hp) (D : Addr) (cl : List (Str × Addr)) (fp : List Addr), SG (X.blk s H scope (compEnvC scope cl D X.env) fp) T (own.map (·.2)) tg g) (ht : ∀ (s : Shared) (H : Hp) (D : Addr) (cl : List (Str × Addr)) (fp : List Addr), STs (X.blk s H scope (compEnvC scope cl D X.env) fp) T WN ifs C)
    (hk : ∀ (s : Shared) (H : Hp) (D : Addr) (cl : List (Str × Addr)) (fp : List Addr), SE (X.blk s H scope (compEnvC scope cl D X.env) fp) T WN kx A)
    (hv : ∀ (s : Shared) (H : Hp) (D : Addr) (cl : List (Str × Addr)) (fp : List Addr), SE (X.blk s H scope (compEnvC scope cl D X.env) fp) T WN vx B) (hs : ∀ x, foldedSetIterable iter X.env x = pure x := by intro _; rfl) :
    SE X T W (.DictComp kx vx [⟨tg, iter, ifs, 0⟩] scope pos) (aDc it g C A B (own.map (·.2))) :=
  peImp (pe_dc hc hN hi ok hg ht hk hv hs) fun σ H Q q => dc_sound q
theorem ss_setDc {i : Nat} {y : Str} {py spos : Pos} {kx vx tg iter : Expr} {ifs : List Expr} {scope : Scope} {own : List (Str × Nat)} {it : AI} {g : AG} {C : AT} {A B : AE} (hc : X.calm = true) (hN : X.N.Nodup) (hsw : swapsWith (.DictComp kx vx [⟨tg, iter, ifs, 0⟩] scope pos) (some (.Name y py)) spos.line X.env = pure true)
    (ok : BlkOk X.N X.env.scope scope own) (hi : SI X T W tg iter it)
    (hg : ∀ (s : Shared) (H : Hp) (D : Addr) (cl : List (Str × Addr)) (fp : List Addr), SG (X.blk s H scope (compEnvC scope cl D X.env) fp) T (own.map (·.2)) tg g) (ht : ∀ (s : Shared) (H : Hp) (D : Addr) (cl : List (Str × Addr)) (fp : List Addr), STs (X.blk s H scope (compEnvC scope cl D X.env) fp) T WN ifs C)
    (hk : ∀ (s : Shared) (H : Hp) (D : Addr) (cl : List (Str × Addr)) (fp : List Addr), SE (X.blk s H scope (compEnvC scope cl D X.env) fp) T WN kx A)
    (hv : ∀ (s : Shared) (H : Hp) (D : Addr) (cl : List (Str × Addr)) (fp : List Addr), SE (X.blk s H scope (compEnvC scope cl D X.env) fp) T WN vx B) (hy : X.N[i]? = some y := by rfl) (hyl : X.env.scope.names.lookup y = some .local := by rfl) (hs : ∀ x, foldedSetIterable iter X.env x = pure x := by intro _; rfl) :
    SS X T W (.Assign [.Name y py] (.DictComp kx vx [⟨tg, iter, ifs, 0⟩] scope pos) spos) (sAsg (aDc it g C A B (own.map (·.2))) (gNm i)) :=
  psImp (PyN.ps_setDc hc hN hy hyl hsw hi ok hg ht hk hv hs) fun D σ H q => by
    obtain ⟨w, env, h, e, R, E, q⟩ := q
    refine @dc_sound X T W it g C A B (own.map (·.2)) σ H _ ⟨w, env, h, e, R, E, ?_⟩
    have q : (aDc it g C A B (own.map (·.2))).run env h (fun v h' => (gNm i).run v env h' (low X.K T W w D).nx) (fun x h' => (low X.K T W w D).ex x env h') := q
    refine (aDc it g C A B (own.map (·.2))).mono q ?_ ?_
    · intro x h1 q1 w1 v1 R1 L1 r1
      exact q1 w1 _ R1 L1 ((E.to L1).set i r1)
    · intro x h1 q1
      exact ex_qx E q1
end
end PyA
end
section
set_option Elab.async false
set_option linter.all false
set_option maxRecDepth 100000
set_option maxHeartbeats 4000000
/-! PyC: own classes: attributes, properties, making, isinstance. -/
namespace PySem.W
open PySem PySem.Spec PySem.Calls PyProof.Rows
section
variable {prog : Program} {w : World} {A : Around} {E : Value → Shared → Prop} {s : Shared} {K : Frag} {x D : Addr} {ox od : Obj}
/-- the class of an exception that has a dict of its own -/
theorem kin_classE2 {Q : Option Value → Shared → Prop} (hga : findIn K (.ref D) "__getattribute__" = some (some (.builtin "BaseException.__getattribute__"))) (hgt : findIn K (.ref D) "__getattr__" = some none) (hsub : subIn K (.ref D) (.type "BaseException") = some true)
    (hdct : hasDictIn K D = true) (ha : findIn K (.ref D) "__class__" = some (some (.builtin "object.__class__")))
    (hn : specialIn K (.builtin "object.__class__") "__get__" = some (some (.builtin "getset_descriptor.__get__"))) (htk : takesIn K (.builtin "object.__class__") = some true) (hm : mroIn K D (.type "object") = some true)
    (X : K.In s.heap) (I : InstAt s.heap x ox D (some od)) (h : Q (some (.ref D)) { s with toks := s.toks + 1 }) : wpAny (model prog w) A (getAttr? (.ref x) "__class__") Q E s := by
  have hf : findObj K D (some od) "__class__" = some (.bind (.builtin "getset_descriptor.__get__") (.builtin "object.__class__")) := findObj_data (by obtain ⟨cd, hc, _⟩ := any_some hdct; rw [hc]; rfl) ha hn htk
  obtain ⟨hp, g, d, t, os⟩ := s
  have L0 := I.type (M := model prog w)
  have L1 := looks_findIn (M := model prog w) X hga
  have L2 := looks_findIn (M := model prog w) X hgt
  have L3 := looks_find (M := model prog w) X I hf
  have sub : Looks (model prog w) hp (isInstance (.ref x) (.type "BaseException")) true := L0.andThen (looks_subIn X hsub)
  have hx0 : (false && onTheHeap (Value.builtin "BaseException.__getattribute__")) = false := rfl
  have hx2 : (Value.builtin "BaseException.__getattribute__" == Value.builtin "object.__getattribute__") = false := by decide +kernel
  have hx1 : (onTheHeap (Value.ref D) && Value.builtin "BaseException.__getattribute__" == Value.builtin "object.__getattribute__") = false := by rw [hx2]; rfl
  unfold getAttr? getAttrBy? getAttrBy
  refine wpAny_bind (wpAny_mkText (wpAny_bind (wpAny_attempt (wpAny_holding (wpAny_bind (L0.at (wpAny_bind (L1.at ?_))))))))
  show wpAny _ _ (if (onTheHeap (Value.ref D) && Value.builtin "BaseException.__getattribute__" == Value.builtin "object.__getattribute__") = true then _ else _) _ _ _
  rw [hx1, if_neg Bool.false_ne_true]
  unfold getAttrByItsOwn hookBefore
  refine wpAny_bind ?_
  rw [if_pos (show onTheHeap (Value.ref D) = true from rfl)]
  refine L2.at ?_
  refine wpAny_bind (wpAny_attempt (wpAny_holding ?_))
  unfold callGetattribute
  rw [hx0, if_neg Bool.false_ne_true]
  unfold boundAndCalled
  rw [PySem.F.excAttr_ValueError.ga.bind (.ref x)]
  refine wpAny_bind (wpAny_pure ?_)
  show wpAny _ _ (call (.builtin "BaseException.__getattribute__") [.ref x, .str "__class__" t]) _ _ _
  refine wpAny_call (codeAny_call_builtin PySem.F.excAttr_ValueError.ga.plain PySem.F.entry_bexc_ga ?_)
  refine @check_slot (model prog w) _ _ ⟨hp, g, d, t + 1, os⟩ "BaseException.__getattribute__" "BaseException" "__getattribute__" (.ref x) [.str "__class__" t] [] _ (by decide +kernel) (by decide +kernel) sub (PySem.F.args_bexc_ga (.ref x) (.str "__class__" t)) ?_
  unfold Builtin.«object.__getattribute__»
  refine wpAny_bind (wpAny_of_eq (a := ((Value.ref x : Value), [Value.str "__class__" t])) (by first | rfl | (simp only [slotArgs]; rfl)) ?_)
  refine wpAny_bind (wpAny_pure (wpAny_bind (L0.at (wpAny_bind (L3.at ?_)))))
  show wpAny _ _ (holding [Value.builtin "object.__class__"] (call (.builtin "getset_descriptor.__get__") [.builtin "object.__class__", .ref x, .ref D]) >>= ret) _ _ _
  refine wpAny_bind (wpAny_holding (wpAny_call (class_get (s := ⟨hp, g, d, t + 1, os⟩) (ox := ox) (od := some od) X I hm ?_)))
  refine wpAny_pure ?_
  show wpAny _ _ (handedOut (.ref D)) _ _ _
  rw [handedOut_of (v := .ref D) rfl]
  first
    | exact wpAny_pure (wpAny_pure h)
    | exact wpAny_pure h
    | exact wpAny_pure (wpAny_bind (wpAny_pure (wpAny_pure h)))
theorem kitx_exc2 (hga : findIn K (.ref D) "__getattribute__" = some (some (.builtin "BaseException.__getattribute__"))) (hgt : findIn K (.ref D) "__getattr__" = some none) (hsub : subIn K (.ref D) (.type "BaseException") = some true) (hdct : hasDictIn K D = true) (ha : findIn K (.ref D) "__class__" = some (some (.builtin "object.__class__")))
    (hn : specialIn K (.builtin "object.__class__") "__get__" = some (some (.builtin "getset_descriptor.__get__"))) (htk : takesIn K (.builtin "object.__class__") = some true) (hm : mroIn K D (.type "object") = some true) :
    KitX K (.ref x) (.ref D) (fun h => InstAt h x ox D (some od)) where
  ty := fun _ _ _ I => I.type
  it := fun _ _ X _ => by
    obtain ⟨cdD, hcD, _⟩ := any_some hdct
    unfold clsIn at hcD
    split at hcD
    · rename_i c' d' cd' sl' ho
      intro A' Q' E' s' k q
      unfold isType loadHead
      exact wpAny_bind (wpAny_loadPart (k _ _ (X _ _ ho)) (wpAny_pure q))
    · cases hcD
  ne := fun h tp dd its n sl X htp => by
    obtain ⟨cdD, hcD, _⟩ := any_some hdct
    refine Bool.eq_false_iff.mpr fun q => ?_
    have e : D = tp := Value.ref.inj (beq_iff_eq.mp q)
    subst e
    unfold clsIn at hcD
    split at hcD
    · rename_i c' d' cd' sl' ho
      have z := (X _ _ ho).symm.trans htp
      cases z
    · cases hcD
  ca := fun X I k => kin_classE2 hga hgt hsub hdct ha hn htk hm X I k
end
end PySem.W
namespace PyA
open PySem L2 PySem.Spec PyProof.Rows
section
variable {X : Cx} {T : NTabs} {W : WX} {e a b c : Expr} {pos p : Pos} {K : PySem.W.Frag} {w : Wd} {h : Hh}
/-! ### unions of readings -/
def AE.or (A B : AE) : AE := ⟨fun e h Q R => A.run e h Q R ∨ B.run e h Q R, fun q f g => q.elim (fun q => .inl (A.mono q f g)) fun q => .inr (B.mono q f g)⟩
theorem se_or2 {A B : AE} (ha : SE X T W e A) (hb : SE X T W e B) : SE X T W e (A.or B) := ⟨fun pins s σ H Q I ⟨w, env, h, e, R, E, q⟩ => q.elim (fun q => ha.run pins s σ H Q I ⟨w, env, h, e, R, E, q⟩) fun q => hb.run pins s σ H Q I ⟨w, env, h, e, R, E, q⟩⟩
/-! ### attributes -/
theorem lookup_zip : ∀ {fs : List Str} {xs : List PV} {vs : List V} {f : Str} {x : PV}, RVs K w xs vs → (fs.zip xs).lookup f = some x → ∃ v, (fs.zip vs).lookup f = some v ∧ RV K w x v
  | [], _, _, _, _, _, e => by simp at e
  | g :: fs, [], _, _, _, _, e => by simp at e
  | g :: fs, y :: xs, vs, f, x, r, e => by
    rw [RVs] at r
    obtain ⟨v, t, e1, r1, r2⟩ := r
    subst e1
    rw [List.zip_cons_cons, List.lookup_cons] at e ⊢
    cases q : f == g with
    | true =>
      rw [q] at e
      cases e
      exact ⟨v, rfl, r1⟩
    | false =>
      rw [q] at e
      exact lookup_zip r2 e
def aFld (c f : Str) (A : AE) : AE := ⟨fun e h Q R => A.run e h (fun x h1 => ∃ l fs xs v, x = .loc l ∧ h1[l]? = some (.ins c fs xs) ∧ (fs.zip xs).lookup f = some v ∧ Q v h1) R, fun q g k => A.mono q (fun _ _ ⟨l, fs, xs, v, a, b, c, q1⟩ => ⟨l, fs, xs, v, a, b, c, g _ _ q1⟩) k⟩
theorem se_fld {c f : Str} {A : AE} (hc : Cls X.K (He.ga X.K c)) (hn : NoAttr X.K (He.ga X.K c) f) (ha : SE X T W e A) (hb : attributeBase e f X.env (eval e X.env) = eval e X.env := by rfl) : SE X T W (.Attribute e f pos) (aFld c f A) :=
  peImp (pe_fld ha hb) fun σ H Q ⟨w, env, h, e, R, E, q⟩ => ⟨w, env, h, e, R, E, A.mono q (fun x h1 ⟨l, fs, xs, v, ex, hl, hf, q1⟩ w1 v1 R1 L1 r1 => by
    subst ex
    rw [RV] at r1
    obtain ⟨dx, vs, g1, g2, g3, g4⟩ := R1.cell _ _ hl
    obtain ⟨u, k1, k2⟩ := lookup_zip g4 hf
    exact ⟨w1.m l, _, dx, _, u, r1.2, g1, hc, hn, k1, q1 w1 u R1 L1 k2⟩) fun _ _ q1 => q1⟩
/-- the fields behind o.f = y -/
def insPut (f : Str) (y : PV) : List Str → List PV → List Str × List PV
  | [], _ => ([f], [y])
  | g :: r, x :: xs => if g = f then (g :: r, y :: xs) else (g :: (insPut f y r xs).1, x :: (insPut f y r xs).2)
  | g :: r, [] => (g :: r, [])
theorem insPut_rv {f : Str} {y : PV} {u : V} (ry : RV K w y u) : ∀ {fs : List Str} {xs : List PV} {vs : List V}, fs.length = vs.length → RVs K w xs vs → ∃ us, putF f u (fs.zip vs) = (insPut f y fs xs).1.zip us ∧ (insPut f y fs xs).1.length = us.length ∧ RVs K w (insPut f y fs xs).2 us ∧ ∀ g ∈ (insPut f y fs xs).1, g = f ∨ g ∈ fs
  | [], xs, vs, hl, r => ⟨[u], rfl, rfl, RVs.cons ry RVs.nil, fun g hg => .inl (List.mem_singleton.mp hg)⟩
  | g :: fs, [], vs, hl, r => by
    rw [RVs] at r
    subst r
    cases hl
  | g :: fs, x :: xs, vs, hl, r => by
    rw [RVs] at r
    obtain ⟨v, t, e1, r1, r2⟩ := r
    subst e1
    unfold insPut
    by_cases q : g = f
    · rw [if_pos q]
      refine ⟨u :: t, ?_, by simpa using hl, RVs.cons ry r2, fun k hk => .inr hk⟩
      rw [List.zip_cons_cons]
      show (if g = f then (g, u) :: fs.zip t else _) = _
      rw [if_pos q]
      rfl
    · rw [if_neg q]
      obtain ⟨us, h1, h2, h3, h4⟩ := insPut_rv ry (fs := fs) (by simpa using hl) r2
      refine ⟨v :: us, ?_, by simp [h2], RVs.cons r1 h3, fun k hk => ?_⟩
      · rw [List.zip_cons_cons]
        show (if g = f then _ else (g, v) :: putF f u (fs.zip t)) = _
        rw [if_neg q, h1]
        rfl
      · rcases List.mem_cons.mp hk with z | z
        · exact .inr (z ▸ List.mem_cons_self)
        · rcases h4 k z with z | z
          · exact .inl z
          · exact .inr (List.mem_cons_of_mem _ z)
theorem insPut_nodup {f : Str} {y : PV} : ∀ {fs : List Str} {xs : List PV}, fs.Nodup → (insPut f y fs xs).1.Nodup ∧ ∀ g ∈ (insPut f y fs xs).1, g = f ∨ g ∈ fs
  | [], _, _ => ⟨by simp [insPut], fun g hg => .inl (by simpa [insPut] using hg)⟩
  | g :: fs, [], h => ⟨h, fun k hk => .inr hk⟩
  | g :: fs, x :: xs, h => by
    unfold insPut
    by_cases q : g = f
    · rw [if_pos q]; exact ⟨h, fun k hk => .inr hk⟩
    · rw [if_neg q]
      obtain ⟨n1, n2⟩ := List.nodup_cons.mp h
      obtain ⟨h1, h2⟩ := insPut_nodup (f := f) (y := y) (xs := xs) n2
      refine ⟨List.nodup_cons.mpr ⟨fun z => ?_, h1⟩, fun k hk => ?_⟩
      · rcases h2 g z with e | e
        · exact q e
        · exact n1 e
      · rcases List.mem_cons.mp hk with z | z
        · exact .inr (z ▸ List.mem_cons_self)
        · rcases h2 k z with z | z
          · exact .inl z
          · exact .inr (List.mem_cons_of_mem _ z)
/-- o.f = value: the value first -/
def sFldA (c f : Str) (A B : AE) : AS := ⟨fun D e h => B.run e h (fun y h1 => A.run e h1 (fun x h2 => ∃ l fs xs, x = .loc l ∧ h2[l]? = some (.ins c fs xs) ∧ fs.length < 1000 ∧ D.nx e (h2.set l (.ins c (insPut f y fs xs).1 (insPut f y fs xs).2))) (fun x h' => D.ex x e h')) (fun x h' => D.ex x e h'),
  fun q L => B.mono q (fun _ _ q1 => A.mono q1 (fun _ _ ⟨l, fs, xs, a, b, c, q2⟩ => ⟨l, fs, xs, a, b, c, L.nx _ _ q2⟩) fun _ _ q => L.ex _ _ _ q) fun _ _ q => L.ex _ _ _ q⟩
theorem ss_fld {c f : Str} {A B : AE} {pos' : Pos} (hc : Cls X.K (He.ga X.K c)) (hn : NoAttr X.K (He.ga X.K c) f) (ha : SE X T W a A) (hb : SE X T W b B) (hs : swapsWith b (some (.Attribute a f pos')) pos.line X.env = pure false := by rfl) : SS X T W (.Assign [.Attribute a f pos'] b pos) (sFldA c f A B) :=
  psImp (ps_fld ha hb hs) fun D σ H ⟨w, env, h, e, R, E, q⟩ => ⟨w, env, h, e, R, E, B.mono q (fun y h1 q1 w1 v1 R1 L1 r1 => ⟨w1, env, h1, rfl, R1, E.to L1, A.mono q1 (fun x h2 ⟨l, fs, xs, ex, hl, hz, q2⟩ w2 v2 R2 L2 r2 => by
    subst ex
    have r2' := r2
    rw [RV] at r2
    obtain ⟨dx, vs, g1, g2, g3, g4⟩ := R2.cell _ _ hl
    refine ⟨w2.m l, _, dx, _, r2.2, g1, hc, hn, by rw [List.length_zip]; omega, ?_⟩
    obtain ⟨us, k1, k2, k3, _⟩ := insPut_rv (f := f) (r1.to L2) g2 g4
    have nf : ∀ od u, w2.H (w2.m l) ≠ some (.frz od u) := fun od u z => by rw [g1] at z; cases z
    have LP := R2.le_put (o := .ins (He.ga X.K c) dx (putF f v1 (fs.zip vs))) r2.1 nf
    have P := R2.put (o := .ins (He.ga X.K c) dx (putF f v1 (fs.zip vs))) r2.1 nf (c := .ins c (insPut f y fs xs).1 (insPut f y fs xs).2) ⟨dx, us, by rw [k1]; exact upd_same, k2, (insPut_nodup g3).1, k3.to LP⟩
    exact q2 _ σ P (L1.trans (L2.trans LP)) (E.to (L1.trans (L2.trans LP)))) fun x h2 q2 => fun w' cls d R' L' r' => q2 w' σ cls d R' (L1.trans L') (E.to (L1.trans L')) r'⟩) fun x h1 q1 => ex_qx E q1⟩
/-- o.f, a property -/
def aProp (c : Str) (F : AF) (A : AE) : AE := ⟨fun e h Q R => A.run e h (fun x h1 => ∃ l fs xs, x = .loc l ∧ h1[l]? = some (.ins c fs xs) ∧ F.run [x] h1 Q NX) R, fun q g k => A.mono q (fun _ _ ⟨l, fs, xs, a, b, q1⟩ => ⟨l, fs, xs, a, b, F.mono q1 g fun _ _ z => z⟩) k⟩
theorem passes0 : Passes (L2.CX X.prog X.w) X.nox (fun _ _ _ => False) := fun pins σ H s e s' I ⟨_, _, _, _, _, _, _, _, _, _, _, _, z⟩ => z
theorem se_prop {c f : Str} {p g : Addr} {fd : FuncData} {k j : Nat} {F : AF} {A : AE} (hc : Cls X.K (He.ga X.K c)) (hp : PropOf X.K (He.ga X.K c) f p g) (hF : FnA X.prog X.w X.K X.mg X.base T k g fd ["self"] F) (hb : Binds X.K fd ["self"] []) (hr : Room j X.A) (hk : k + 1 ≤ j) (ha : SE X T W e A)
    (hab : attributeBase e f X.env (eval e X.env) = eval e X.env := by rfl) : SE X T W (.Attribute e f pos) (aProp c F A) :=
  peImp (pe_prop ha hc hp hF (hr.mono hk) hb .nil passes0 hab) fun σ H Q ⟨w, env, h, e, R, E, q⟩ => ⟨w, env, h, e, R, E, A.mono q (fun x h1 ⟨l, fs, xs, ex, hl, q1⟩ w1 v1 R1 L1 r1 => by
    have r1' := r1
    subst ex
    rw [RV] at r1
    obtain ⟨dx, vs, g1, _⟩ := R1.cell _ _ hl
    refine ⟨w1.m l, dx, _, r1.2, g1, w1, h1, [.loc l], rfl, R1, RVs.cons (by rw [← r1.2]; exact r1') RVs.nil, F.mono q1 (fun y h2 q2 w2 v R2 L2 r2 => q2 w2 v R2 (L1.trans L2) r2) fun _ _ z => z.elim⟩) fun _ _ q1 => q1⟩
/-! ### making -/
theorem run_makeS {CX : CXT} {k : Nat} {f C : Addr} {fd : FuncData} {ps : List Str} {sp : Sp} {dvs : List V} {ds : List Value} {E : XK} {pins : List (Addr × Obj)} {σ : L2.St} {H : Hp} {s : Shared} {Q : VK} {us : List Value} {vs : List V} (M : Mk X.K C f) (F : FnOk X.prog X.w X.K X.mg X.base CX k f fd ps sp) (hr : Room (k + 1) X.A) (hb : Binds X.K fd ps ds) (hd : Vals dvs ds)
    (hx : PassesAt CX X σ E) (I : Inv X pins σ H s) (r : Vals vs us)
    (h : ∀ x dx, H x = none → H dx = none → dx ≠ x → sp (.ref x :: (vs ++ dvs)) (upd (upd H dx (.own x)) x (.ins C dx [])) (fun v H2 => v = .non ∧ Q (.ref x) H2) E) :
    wpAny (model X.prog X.w) X.A (call (.ref C) us) (EP X pins σ Q) X.xe s := by
  have hq := h (s.heap.objs.size + 1) s.heap.objs.size (I.hok.fresh (Nat.le_succ _)) (I.hok.fresh (Nat.le_refl _)) (Nat.ne_of_lt (Nat.lt_succ_self _))
  have I2 := Inv.made (C := C) I
  have r2 : Vals (V.ref (s.heap.objs.size + 1) :: (vs ++ dvs)) (Value.ref (s.heap.objs.size + 1) :: (us ++ ds)) := .cons rfl (r.append hd)
  have hl : (Value.ref (s.heap.objs.size + 1) :: us ++ ds).length = ps.length := by
    have e := r2.length
    rw [F.len _ _ _ _ hq] at e
    exact e.symm
  refine wpAny_call (make_map (f := f) I.kIn M.makes M.init (beq_iff_eq.mp M.fn) (codeAny_mono (F.run _ X.stack _ _ ⟨Value.ref (s.heap.objs.size + 1) :: us, []⟩ (Value.ref (s.heap.objs.size + 1) :: (us ++ ds)) _ _ E (hr.make C us [])
    (I2.env0.make C us []) (hb _ (Value.ref (s.heap.objs.size + 1) :: us) I2.kIn hl) r2 hq) fun r s' hq' => ?_))
  cases r with
  | error e => exact hx pins _ _ e s' I2 hq'
  | ok fl =>
    cases fl with
    | ret u =>
      obtain ⟨v, H', I3, rv, ev, q3⟩ := I2.after hq'
      subst ev
      exact ⟨rv, ⟨V.ref (s.heap.objs.size + 1), H', I3, rfl, q3⟩⟩
    | next => exact False.elim hq'
    | brk => exact False.elim hq'
    | cont => exact False.elim hq'
/-- what a caller needs of an own class: its __init__ -/
structure CalC (P : Program) (w : World) (K : PySem.W.Frag) (mg : Str → Option Value) (base : Heap) (T : NTabs) (c : Str) (k : Nat) (ps : List Str) (F : AF) : Prop where
  ex : ∃ g fd, FnA P w K mg base T k g fd ps F ∧ Binds K fd ps [] ∧ Mk K (He.ga K c) g
  mg : mg c = some (.ref (He.ga K c))
def aMake (c : Str) (F : AF) (A : AA) : AE := ⟨fun e h Q R => A.run e h (fun xs h1 => F.run (.loc h1.length :: xs) (h1 ++ [.ins c [] []]) (fun v h2 => v = .non ∧ Q (.loc h1.length) h2) R) R, fun q f g => A.mono q (fun _ _ q1 => F.mono q1 (fun _ _ ⟨e, q2⟩ => ⟨e, f _ _ q2⟩) g) g⟩
theorem newIns (R : Rel K T w h) {x dx : Addr} {c : Str} (hx : w.H x = none) (hd : w.H dx = none) (ne : dx ≠ x) : ∃ w', w'.H = upd (upd w.H dx (.own x)) x (.ins (He.ga K c) dx []) ∧ Rel K T w' (h ++ [.ins c [] []]) ∧ w.Le w' ∧ RV K w' (.loc h.length) (.ref x) ∧ h.length < w'.n ∧ w'.m h.length = x := by
  have R1 := R.lay (o := .own x) hd
  have L1 := Wd.le_lay (o := .own x) hd
  have hx1 : (w.lay dx (.own x)).H x = none := by
    show upd w.H dx _ x = none
    rw [upd_ne (fun z => ne z.symm)]
    exact hx
  have R2 := R1.push (o := .ins (He.ga K c) dx []) hx1 (c := .ins c [] []) ⟨dx, [], upd_same, rfl, List.nodup_nil, RVs.nil⟩
  have hn : h.length = (w.lay dx (.own x)).n := R.len.symm
  refine ⟨_, rfl, R2, L1.trans (Wd.le_push hx1), ?_, ?_, ?_⟩
  · rw [RV]
    refine ⟨by rw [hn]; exact Nat.lt_succ_self _, ?_⟩
    show V.ref x = V.ref (if h.length = _ then x else _)
    rw [if_pos hn]
  · rw [hn]; exact Nat.lt_succ_self _
  · show (if h.length = _ then x else _) = x
    rw [if_pos hn]
theorem se_make {c : Str} {k j : Nat} {ps : List Str} {F : AF} {A : AA} {es : List Expr} (C : CalC X.prog X.w X.K X.mg X.base T c k ps F) (hr : Room j X.A) (hk : k + 1 ≤ j) (tk : Takes X W) (ha : SA X T W (e :: es) A) (hg : Gl X c := by rfl) (hdb : (c == ("__debug__" : Str)) = false := by decide)
    (he : starEach (e :: es) X.env = (false, eval e X.env) :: starEach es X.env := by rfl) (hpl : (backTo pos (starEach es X.env)).any (·.1) = false := by rfl) : SE X T W (.Call (.Name c p) (e :: es) [] pos) (aMake c F A) := by
  obtain ⟨g, fd, hF, hb, M⟩ := C.ex
  refine ⟨fun pins s σ H Q I q => ?_⟩
  refine wpAny_Call_Name_kw (ld_glob I hg C.mg ?_ hdb)
  have q' : tA X.K T W A σ H (fun vs H1 => ∀ x dx, H1 x = none → H1 dx = none → dx ≠ x → spA X.K T F (.ref x :: (vs ++ [])) (upd (upd H1 dx (.own x)) x (.ins (He.ga X.K c) dx [])) (fun v H2 => v = .non ∧ Q (.ref x) H2) (WE W σ)) := by
    obtain ⟨w, env, h, e0, R, E, q⟩ := q
    refine ⟨w, env, h, e0, R, E, A.mono q (fun xs h1 q1 w1 vs R1 L1 r1 x dx hx hd ne => ?_) fun _ _ q1 => q1⟩
    obtain ⟨w2, e2, R2, L2, r2, hn, hm⟩ := newIns (T := T) (c := c) R1 hx hd ne
    refine ⟨w2, _, .loc h1.length :: xs, e2, R2, RVs.cons r2 (by rw [List.append_nil]; exact r1.to L2), F.mono q1 (fun v h3 ⟨ev, q3⟩ w3 v3 R3 L3 r3 => ?_) fun y h3 q3 w3 cls d R3 L3 r3 => q3 w3 cls d R3 (L1.trans (L2.trans L3)) r3⟩
    subst ev
    rw [RV] at r3
    refine ⟨r3, q3 w3 _ R3 (L1.trans (L2.trans L3)) ?_⟩
    rw [RV]
    exact ⟨Nat.lt_of_lt_of_le hn L3.n, by rw [L3.m _ hn, hm]⟩
  refine PySem.W.callWith_K (h₀ := X.base) I.ok.mod.kin M.kp (thn (ha.run pos pins s σ H _ I q') fun us s1 ⟨vs, H1, I1, r, q⟩ => ⟨I1.kIn, ?_⟩) he hpl
  exact run_makeS M hF (hr.mono hk) hb .nil (passAt tk σ) I1 r q
/-! ### isinstance -/
inductive Tag where
  | bi (n : String)
  | own (c : Str)
def Tag.v (K : PySem.W.Frag) : Tag → Value
  | .bi n => .type n
  | .own c => .ref (He.ga K c)
def tagPV (h : Hh) : PV → Option Tag
  | .non => some (.bi "NoneType")
  | .bl _ => some (.bi "bool")
  | .int _ => some (.bi "int")
  | .str _ => some (.bi "str")
  | .tup _ => some (.bi "tuple")
  | .ftp _ => some (.bi "tuple")
  | .loc l => match h[l]? with
    | some (.lst _) => some (.bi "list")
    | some (.dic false _) => some (.bi "dict")
    | some (.ins c _ _) => some (.own c)
    | _ => none
  | .exn c _ _ => some (.own c)
  | _ => none
def clsPV : PV → Option Tag
  | .ty n => some (.bi n)
  | .gf x => some (.own x)
  | _ => none
theorem clsV_of {x : PV} {v : V} {t : Tag} (r : RV K w x v) (e : clsPV x = some t) : ClsV v (t.v K) := by
  cases x with
  | ty n => cases e; rw [RV] at r; subst r; exact .ty n
  | gf n => cases e; rw [RV] at r; subst r; exact .own _
  | _ => cases e
theorem clsVs_of : ∀ {xs : List PV} {vs : List V} {ts : List Tag}, RVs K w xs vs → xs.mapM clsPV = some ts → Paired ClsV vs (ts.map (Tag.v K))
  | [], vs, ts, r, e => by
    rw [RVs] at r
    subst r
    cases e
    exact .nil
  | x :: xs, vs, ts, r, e => by
    obtain ⟨t, u, e1, e2, e3⟩ := mapM_cons e
    rw [RVs] at r
    obtain ⟨v, q, f1, r1, r2⟩ := r
    subst e3 f1
    exact .cons (clsV_of r1 e1) (clsVs_of r2 e2)
/-- what an own class must say for isinstance -/
structure InsT (K : PySem.W.Frag) (C : Addr) : Prop where
  cl : Cls K C
  ha : PySem.W.findIn K (.ref C) "__class__" = some (some (.builtin "object.__class__"))
  hn : PySem.W.specialIn K (.builtin "object.__class__") "__get__" = some (some (.builtin "getset_descriptor.__get__"))
  ht : PySem.W.takesIn K (.builtin "object.__class__") = some true
  hm : PySem.W.mroIn K C (.type "object") = some true
/-- answers of isinstance, by tags; own classes of plain instances, of exceptions -/
structure KTab (K : PySem.W.Frag) (kt : List (Tag × Tag × Bool)) (ci ce : List Str) : Prop where
  ans : ∀ q ∈ kt, PySem.W.kitOne K (q.1.v K) (q.2.1.v K) = some q.2.2
  ins : ∀ c ∈ ci, InsT K (He.ga K c)
  exc : ∀ c ∈ ce, ExcC K (He.ga K c)
/-- is the tag right for this table -/
def tagOk (ci ce : List Str) (h : Hh) : PV → Prop
  | .loc l => match h[l]? with
    | some (.ins c _ _) => c ∈ ci
    | _ => True
  | .exn c _ _ => c ∈ ce
  | _ => True
/-- isinstance(x, t), isinstance(x, (t, u, ..)) -/
inductive KAns (kt : List (Tag × Tag × Bool)) (t : Tag) : List Tag → Bool → Prop where
  | nil : KAns kt t [] false
  | yes {u us} : (t, u, true) ∈ kt → KAns kt t (u :: us) true
  | no {u us b} : (t, u, false) ∈ kt → KAns kt t us b → KAns kt t (u :: us) b
def nIsi (kt : List (Tag × Tag × Bool)) (ci ce : List Str) : AON := ⟨fun xs h Q => ∃ x c t b, xs = [x, c] ∧ tagPV h x = some t ∧ tagOk ci ce h x ∧ ((∃ u, clsPV c = some u ∧ (t, u, b) ∈ kt) ∨ ∃ cs us, c = .tup cs ∧ cs.mapM clsPV = some us ∧ KAns kt t us b) ∧ Q (.bl b) h,
  fun ⟨x, c, t, b, h1, h2, h3, h4, q⟩ f => ⟨x, c, t, b, h1, h2, h3, h4, f _ _ q⟩⟩
theorem kans_ok {kt : List (Tag × Tag × Bool)} {ci ce : List Str} (KT : KTab K kt ci ce) {t : Tag} {us : List Tag} {b : Bool} (k : KAns kt t us b) : PySem.W.kitAny K (t.v K) (us.map (Tag.v K)) = some b := by
  induction k with
  | nil => rfl
  | yes m => exact kitAny_cons (KT.ans _ m) (fun z => by cases z) fun _ => rfl
  | no m _ ih => exact kitAny_cons (KT.ans _ m) (fun _ => ih) fun z => by cases z
theorem kit_pv {kt : List (Tag × Tag × Bool)} {ci ce : List Str} (KT : KTab X.K kt ci ce) {pins : List (Addr × Obj)} {σ : L2.St} {s : Shared} {x : PV} {v : V} {u : Value} {t : Tag} (R : Rel X.K T w h) (I : Inv X pins σ w.H s) (r : RV X.K w x v) (ru : RelV v u) (ht : tagPV h x = some t) (ho : tagOk ci ce h x) :
    ∃ P : Heap → Prop, PySem.W.KitX X.K u (t.v X.K) P ∧ P s.heap ∧ u ≠ .builtin "__main__.__loader__#opaque" := by
  have byTy : ∀ {t' : Value}, TyX X.K w.H v t' → t' = t.v X.K → ∃ P : Heap → Prop, PySem.W.KitX X.K u (t.v X.K) P ∧ P s.heap ∧ u ≠ .builtin "__main__.__loader__#opaque" := fun ty e => e ▸ kit_of I ru ty
  cases x with
  | non => cases ht; rw [RV] at r; subst r; exact byTy (.base .non) rfl
  | bl b => cases ht; rw [RV] at r; subst r; exact byTy (.base (.bl b)) rfl
  | int b => cases ht; rw [RV] at r; subst r; exact byTy (.base (.int b)) rfl
  | str b => cases ht; rw [RV] at r; subst r; exact byTy (.base (.str b)) rfl
  | tup xs => cases ht; rw [RV] at r; obtain ⟨a, vs, e1, e2, _⟩ := r; subst e1; exact byTy (.base (.tup e2.2)) rfl
  | ftp xs => cases ht; rw [RV] at r; obtain ⟨a, vs, od, e1, _, e2, _⟩ := r; subst e1; exact byTy (.fTuple e2) rfl
  | loc l =>
    have hi := r
    rw [RV] at hi
    have ht : (match h[l]? with
      | some (.lst _) => some (Tag.bi "list")
      | some (.dic false _) => some (.bi "dict")
      | some (.ins c _ _) => some (.own c)
      | _ => none) = some t := ht
    have ho : (match h[l]? with
      | some (.ins c _ _) => c ∈ ci
      | _ => True) := ho
    cases q : h[l]? with
    | none => rw [q] at ht; cases ht
    | some c =>
      rw [q] at ht ho
      cases c with
      | lst xs =>
        cases ht
        obtain ⟨vs, e1, e2, _⟩ := at_list R r q
        subst e1
        exact byTy (.base (.lst e2)) rfl
      | dic lk kvs =>
        cases lk with
        | true => cases ht
        | false =>
          cases ht
          obtain ⟨o, ho, d⟩ := R.cell _ _ q
          rw [hi.2] at byTy
          rcases d with ⟨ys, e, _⟩ | ⟨ys, e, _⟩
          · subst e; exact byTy (.base (.dK ho)) rfl
          · subst e; exact byTy (.base (.dT ho)) rfl
      | ins c fs xs =>
        cases ht
        obtain ⟨dx, vs, g1, _⟩ := R.cell _ _ q
        rw [hi.2] at byTy
        have z := KT.ins c ho
        exact byTy (.base (.ins g1 z.cl z.ha z.hn z.ht z.hm)) rfl
      | dik kvs => cases ht
      | set ks => cases ht
  | exn c fs xs =>
    cases ht
    rw [RV] at r
    obtain ⟨a, vs, e1, off, r2, hh⟩ := r
    subst e1
    cases (show u = Value.ref a from ru)
    have C := KT.exc c ho
    have obj : ∀ {d : Option Addr}, w.H a = some (ExO a (.ref (He.ga X.K c)) d) → ∃ (oe : Obj) (vs : Array Value), s.heap.get? a = some oe ∧ Zc (.ref (He.ga X.K c)) d oe ∧ oe.data = .fields vs := fun hd => (I.hok a _ hd).1
    rcases hh with ⟨_, _, hd⟩ | ⟨d, od, h1, h2, h3⟩
    · obtain ⟨oe, vs, g, z, hf⟩ := obj hd
      have J : PySem.W.InstAt s.heap a oe (He.ga X.K c) none := by
        obtain ⟨oc, od, oda, osl⟩ := oe
        obtain ⟨z1, z2⟩ := z
        dsimp only at z1 z2 hf
        subst z1 z2 hf
        exact ⟨g, rfl, rfl, trivial⟩
      exact ⟨_, PySem.W.handS_kitx_exc C.hg C.hk C.hs C.hd C.ha C.hn C.ht C.hm, J, fun z => nomatch z⟩
    · obtain ⟨oe, vs', g, z, hf⟩ := obj h1
      obtain ⟨ob, hob⟩ : ∃ ob, s.heap.get? d = some ob := by
        obtain ⟨mA, ⟨o, _, _, e, _⟩, _⟩ := (show ObjOk X.prog X.w w.H s.heap d (.xd (fs.zip vs)) from I.hok d _ h2)
        exact ⟨o, e⟩
      have J : PySem.W.InstAt s.heap a oe (He.ga X.K c) (some ob) := by
        obtain ⟨oc, od, oda, osl⟩ := oe
        obtain ⟨z1, z2⟩ := z
        dsimp only at z1 z2 hf
        subst z1 z2 hf
        exact ⟨g, rfl, rfl, hob⟩
      exact ⟨_, PySem.W.kitx_exc2 C.hg C.hk C.hs C.hd C.ha C.hn C.ht C.hm, J, fun z => nomatch z⟩
  | _ => cases ht
theorem ca_isi {kt : List (Tag × Tag × Bool)} {ci ce : List Str} (KT : KTab X.K kt ci ce) : CaS X T (.builtin "isinstance") (nIsi kt ci ce) := by
  intro pins s σ H vs us Q I rs q
  obtain ⟨w, h, xs, e0, R, r, x, c, t, b, ex, ht, ho, hc, q⟩ := q
  subst e0 ex
  obtain ⟨xv, cv, ev, r1, r2⟩ := rvs2 r
  subst ev
  obtain ⟨u1, u2, rfl, s1, s2⟩ := vals2 rs
  obtain ⟨P, Z, pp, hx⟩ := kit_pv KT R I r1 s1 ht ho
  have fin : ∀ tk, EP X pins σ Q (.bool b) { s with toks := tk } := fun tk => ⟨.bl b, w.H, I.tok tk, rfl, q w _ R (Wd.Le.refl w) rv_bl⟩
  rcases hc with ⟨u, e1, e2⟩ | ⟨cs, us, e1, e2, e3⟩
  · have e4 := (clsV_of r2 e1).eq s2
    subst e4
    exact PySem.W.kia_one Z I.kIn pp (KT.ans _ e2) hx fin
  · subst e1
    rw [RV] at r2
    obtain ⟨a, ws, f1, f2, f3⟩ := r2
    subst f1
    cases (show u2 = Value.ref a from s2)
    obtain ⟨_, its, rv, o, h1, h2, n, h3⟩ := (show ObjOk X.prog X.w w.H s.heap a (.tup ws) from I.hok a _ f2.2)
    have e4 := ClsV.all (clsVs_of f3 e2) rv
    subst e4
    obtain ⟨oc, od, dt, sl⟩ := o
    simp only at h2 h3
    subst h2 h3
    exact PySem.W.kia_tup Z I.kIn pp h1 (kans_ok KT e3) hx fin
end
end PyA
end
section
set_option Elab.async false
set_option linter.all false
set_option maxRecDepth 100000
set_option maxHeartbeats 4000000
/-! PyXN: an own exception's __init__ that says super().__init__(a text) and keeps its parameter. -/
namespace PyN
open PySem PySem.Spec PyProof.Rows PySem.W L2 NdefX
/-- what of the text an exception class at C must have, its __init__ being D's, the attribute fl -/
structure XIok (K : PySem.W.Frag) (C D : Addr) (fl : Str) : Prop where
  oex : OexC K C
  sub : mroIn K C (.ref D) = some true
  sup : ks_superIn K C D "__init__" = some (some (.builtin "ValueError.__init__"))
  isV : subIn K (.ref C) (.type "ValueError") = some true
  opq : nsIn K cStatics "thirdparty.any" = some none
  no : findIn K (.ref C) fl = some none
def spXI (K : PySem.W.Frag) (D : Addr) (fl : Str) : Sp := fun vs H Q _ => ∃ (a C : Addr) (y : V), vs = [.ref a, y] ∧ XIok K C D fl ∧ H a = some (exo a C none) ∧ ∀ dx, H dx = none → dx ≠ a → Q .non (upd (upd H dx (exd dx [(fl, y)])) a (exo a C (some dx)))
/-- what the head tells of such a def -/
structure XInit (P : Program) (K : PySem.W.Frag) (D : Addr) (name qual : Str) (params : Arguments) (body : List Stmt) (scope : Scope) (f : Addr) (fd : FuncData) : Prop where
  ex : ∃ (oc : Value) (od : Option Addr) (dV kV doc pm : Value) (an : Option Addr) (ct : Value) (osl : Array (Option Value)) (c cc : Addr) (ccl : Value) (cdd : Option Addr) (vs : Array Value) (ccs : Array (Option Value)) (file : Str) (tf : Tok) (cl : Value) (cld : Option Addr) (csl : Array (Option Value)) (cdD : ClassData),
    fd = fnX name qual params body scope [("__class__", cc)] dV kV doc pm an (.ref c) ct ∧ K.lookup f = some ⟨oc, od, .func fd, osl⟩ ∧ codeIn K (.ref c) qual = true ∧ K.lookup c = some ⟨ccl, cdd, .fields vs, ccs⟩ ∧ vs[2]? = some (.str file tf) ∧ ((P.main.file : Str) == file) = true ∧
    K.lookup cc = some ⟨cl, cld, .cell (some (.ref D)), csl⟩ ∧ clsIn K D = some cdD ∧ ((doc == doc) = true ∨ True)
section
variable {P : Program} {w : World} {K : PySem.W.Frag} {mg : Str → Option Value} {base : Heap} {CX : CXT}
/-- ValueError.__init__ bound to the exception, called -/
theorem call_mw {X : Cx} {pins : List (Addr × Obj)} {σ : L2.St} {H : Hp} {s : Shared} {u a C : Addr} {us : List Value} {Q : Value → Shared → Prop} {E : Value → Shared → Prop} {A : Around} (T : OexC X.K C) (I : Inv X pins σ H s) (e : H a = some (exo a C none)) (hu : s.heap.get? u = some (kxs_mw "ValueError.__init__" a)) (hl : us.length ≤ sizeLine) (h : ∀ s', Inv X pins σ H s' → Q .none s') :
    wpAny (model X.prog X.w) A (call (.ref u) us) Q E s := by
  obtain ⟨nm, q, N, bs, bm, sn, sub, ab, col, dd, k0, k1, k2, k3, k5, hC, hbm⟩ := T.cls
  obtain ⟨t1, ho⟩ := exo_at I.hok e
  obtain ⟨hp, g, d, t, os⟩ := s
  refine wpAny_call (codeAny_of_tree ?_)
  show wpAny _ A.in1 (callAny (.ref u) ⟨us, []⟩) _ _ _
  simp only [callAny]
  refine wpAny_bind (wpAny_load hu ?_)
  simp only [kxs_mw, show (Value.type "method-wrapper" == Value.type "method" || Value.type "method-wrapper" == Value.type "builtin_function_or_method" || Value.type "method-wrapper" == Value.type "method-wrapper") = true by decide, if_true]
  refine KFB.if_so (by decide) ?_
  refine wpAny_bind (check_bound_init F.excBase_ValueError.toExcCallFacts (I.kIn _ _ hC) ho rfl ?_)
  refine wpAny_bind (wpAny_pure (wpAny_pure ?_))
  refine ⟨plainId_quiet F.excBase_ValueError.init.plain _, codeAny_builtin F.excBase_ValueError.initEntry ?_⟩
  refine exc_init_tree (cls := .ref C) (t0 := t1) (dv := none) (c2 := .none) (c3 := .none) (b4 := .bool false) ho hl fun h' k hx _ => ?_
  have J := I.write (t' := t) (x := a) (e := a) (o := exo a C none) (h' := h') (by rw [e]; exact True.intro) (.inl rfl) k ⟨_, hx⟩ (exo_ok hx)
  have eu : upd H a (exo a C none) = H := by
    funext b
    by_cases hb : b = a
    · rw [hb, upd_same, e]
    · rw [upd_ne hb]
  rw [eu] at J
  exact h _ J
theorem fn_excinit {f D : Addr} {fd : FuncData} {name qual pn fl msg : Str} {params : Arguments} {body : List Stmt} {scope : Scope} {ar : Arg} {k j : Nat} {p0 p1 p2 p3 p4 p5 p6 p7 p8 p9 : Pos} (F : XInit P K D name qual params body scope f fd) (S : NScope ["self", pn, "__class__"] ["self", pn] ["__class__"] scope)
    (hp : (params.posonlyargs ++ params.args).head? = some ar) (har : ar.arg = "self") (hb : body = [.Expr (.Call (.Attribute (.Call (.Name "super" p0) [] [] p1) "__init__" p2) [.Constant (.str msg) j p3] [] p4) p5, .Assign [.Attribute (.Name "self" p6) fl p7] (.Name pn p8) p9])
    (hks : scope.names.lookup ("super" : Str) = some .globalImplicit) (htop : (P.main.scope.names.lookup ("super" : Str)).isSome = false) (hm : mg "super" = none) (hline : (p2.endLine == p4.line) = true)
    (hpd : (pn == ("__debug__" : Str)) = false) (hpc : (pn == ("__classdict__" : Str)) = false)
    {pl : Env → Sem Bool} (heq : ∀ env, eval (.Call (.Attribute (.Call (.Name "super" p0) [] [] p1) "__init__" p2) [.Constant (.str msg) j p3] [] p4) env = (do
      let ov ← attributeBase (.Call (.Name "super" p0) [] [] p1) "__init__" env (eval (.Call (.Name "super" p0) [] [] p1) env)
      standAt p2.atName
      let (f, first) ← holding [ov] (getMethod ov "__init__" (pl env))
      callWith p4 f first (backTo p4 (starEach [.Constant (.str msg) j p3] env)) [])) :
    FnOk P w K mg base CX (k + 1) f fd ["self", pn] (spXI K D fl) := by
  obtain ⟨oc, od, dV, kV, doc, pm, an, ct, osl, c, cc, ccl, cdd, vs0, ccs, file, tf, cl, cld, csl, cdD, efd, lk, hcd, lc, hvs, hfile, lcc, hD, _⟩ := F.ex
  subst efd
  refine ⟨fun vs H Q E h => by obtain ⟨a, C, y, e, _⟩ := h; rw [e]; rfl, fun A outer s H args us vs Q E hr e0 hbi r hsp => ?_⟩
  have hl : vs.length = 2 := by obtain ⟨a, C, y, e, _⟩ := hsp; rw [e]; rfl
  have KX : K.In s.heap := e0.mod.kin.keeps fun b o e => (e0.bs b o e).1
  have lim : s.heap.NoLimit := e0.mod.nolimit.keeps fun b o e => (e0.bs b o e).1
  have hlu : us.length = 2 := by rw [← r.length]; exact hl
  have ccb : base.get? cc = some ⟨cl, cld, .cell (some (.ref D)), csl⟩ := e0.mod.kin _ _ lcc
  let F' : NF := ⟨name, qual, params, body, scope, [("__class__", cc)], c⟩
  have C : CellsAt F'.cl ["__class__"] [none] s.heap H := by
    refine ⟨rfl, fun y c' e => ?_, fun x y c' e1 e2 => ?_, fun i y hi => ?_⟩
    · have e : List.lookup y [(("__class__" : Str), cc)] = some c' := e
      rw [List.lookup_cons] at e
      split at e
      · cases e
        exact ⟨(e0.bs _ _ ccb).2, some (.ref D), ⟨_, (e0.bs _ _ ccb).1, rfl⟩⟩
      · cases e
    · have e1 : List.lookup x [(("__class__" : Str), cc)] = some c' := e1
      have e2 : List.lookup y [(("__class__" : Str), cc)] = some c' := e2
      rw [List.lookup_cons] at e1 e2
      split at e1
      · split at e2
        · rename_i h1 _ h2
          rw [eq_of_beq h1, eq_of_beq h2]
        · cases e2
      · cases e1
    · cases i with
      | zero =>
        cases hi
        refine ⟨cc, rfl, fun v hv => by cases hv⟩
      | succ i => cases hi
  refine ks_codeAny_call_defAt (fd := fnX name qual params body scope [("__class__", cc)] dV kV doc pm an (.ref c) ct) (body := body) (binds := [("self" : Str), pn].zip us) hr.depth (KX _ _ lk) rfl lim (codeRec_of KX hcd) rfl hbi S.nocell (fun ⟨n, _⟩ hy => S.par n (List.of_mem_zip hy).1) (fun h₁ hns kp => ?_) S.co S.gen S.kind
  have I : L2.Inv (ncx CX P w K mg base ["self", pn, "__class__"] F' f A outer s H E) [] (startF ["self", pn, "__class__"] vs [none]) H { s with heap := h₁, toks := s.toks + ([("self" : Str), pn].zip us).length } := inv_startN S hr.hd e0 (by rw [hl]; rfl) r C hns kp
  obtain ⟨a, Cc, y, ev, ok, ea, q⟩ := hsp
  subst ev
  have hst : startF ["self", pn, "__class__"] [V.ref a, y] [none] = [some (V.ref a), some y, none] := rfl
  rw [hst] at I
  subst hb
  have self : Vis scope "self" := .inl (S.par "self" (by simp))
  have sp : Vis scope pn := .inl (S.par pn (by simp))
  have hkc : scope.names.lookup ("__class__" : Str) = some .free := S.frk "__class__" (by simp)
  show _root_.PySem.wpAt (model P w) (A.deeper (envF F' f s.heap.objs.size)) (.func _ (envF F' f s.heap.objs.size)) (execs _ (envF F' f s.heap.objs.size)) _ _ _
  have hI : ∀ L, interactive (envF F' f L) = false := fun L => by
    show (scope.kind == .module && _) = false
    rw [S.kind]
    rfl
  refine ks_wpAt_execs_cons (ks_wpAt_Expr_any (ks_wpAt_MethodCall (pl := pl _) ?_ (heq _)) (hI _) rfl)
  have cdk : ∃ oD, h₁.get? D = some oD ∧ oD.data = .cls cdD := by
    unfold clsIn at hD
    split at hD
    · rename_i c d cd' sl ho
      cases hD
      exact ⟨_, I.kIn _ _ ho, rfl⟩
    · cases hD
  obtain ⟨oD, hD1, hD2⟩ := cdk
  obtain ⟨t1, hoa⟩ := exo_at I.hok ea
  refine ks_wpAt_super_base (env := envF F' f s.heap.objs.size) hks hkc (by decide) rfl (kp _ _ (KX _ _ lk)) rfl hp rfl (kp _ _ (KX _ _ lc)) rfl hvs hfile htop ?_
  obtain ⟨mb, hb1, hb2⟩ := e0.mod.blt
  refine ks_loadName_global S.kind hks (Calls.loadGlobal_builtin (env := envF F' f s.heap.objs.size) (e0.mod.glob.keeps I.bk) hm (hb1.keeps I.bk) ((hb2 _ (by decide)).trans PyProof.Rows.Boot.«super») ⟨rfl, ?_⟩)
  refine wpAny_loadName_free S.kind hkc rfl ⟨_, kp _ _ (e0.bs _ _ ccb).1, rfl⟩ ?_
  obtain ⟨m, hns2, hlook⟩ := I.loc
  rw [har]
  obtain ⟨u, ru, hu⟩ := hlook 0 "self" (.ref a) rfl rfl self
  have hu : m "self" = some u := by
    rcases hu with ⟨_, z⟩ | ⟨z, _⟩
    · exact z
    · rcases z with z | z
      · cases (S.par ("self" : Str) (by simp)).symm.trans z
      · cases (S.par ("self" : Str) (by simp)).symm.trans z
  cases (show u = Value.ref a from ru)
  refine wpAny_loadName_local S.kind (S.par "self" (by simp)) hns2 hu ?_
  refine ks_wpAny_isType_cls hD1 hD2 ⟨rfl, ?_⟩
  refine ks_wpAny_call_super hD1 hD2 hoa rfl (fun c e => by cases e) (looks_mroIn I.kIn ok.sub) (fun h' e k => ?_)
  have I1 : L2.Inv (ncx CX P w K mg base ["self", pn, "__class__"] F' f A outer s H E) [] [some (V.ref a), some y, none] H { s with heap := h', toks := s.toks + ([("self" : Str), pn].zip us).length } := I.kept k
  have hsup := ok.sup
  unfold ks_superIn at hsup
  cases hcc : clsIn K Cc with
  | none => rw [hcc] at hsup; cases hsup
  | some cdC =>
  rw [hcc] at hsup
  have hsup : alongIn K "__init__" ((cdC.mro.dropWhile (· != .ref D)).drop 1) = some (some (.builtin "ValueError.__init__")) := hsup
  have J1 : InstAt h' a { cls := .ref Cc, dict := none, data := .fields #[.ref t1, .none, .none, .none, .bool false, .none] } Cc none := ⟨k _ _ hoa, rfl, rfl, trivial⟩
  refine kxs_getMethod (K := K) (D := D) (C := Cc) (name := "__init__") kxs_ValueError e (looks_opaque I1.kIn ok.opq) (l₀ := cdC.mro) (l := (cdC.mro.dropWhile (· != .ref D)).drop 1) ?_ rfl I1.kIn hsup (J1.type.andThen (looks_subIn I1.kIn ok.isV)) (ks_ne I1.kIn J1 hcc) (by decide) ?_
  · exact fun A Q E s k q => wpAny_bind ((looks_clsIn I1.kIn hcc) A _ E s k (wpAny_pure q))
  have k2 : ∀ b o, h'.get? b = some o → (h'.push (kxs_mw "ValueError.__init__" a)).get? b = some o := fun b o e => Heap.get?_push_of_some _ e
  have I2 : L2.Inv (ncx CX P w K mg base ["self", pn, "__class__"] F' f A outer s H E) [] [some (V.ref a), some y, none] H { s with heap := h'.push (kxs_mw "ValueError.__init__" a), toks := s.toks + ([("self" : Str), pn].zip us).length + 1 } := I1.kept (t' := s.toks + ([("self" : Str), pn].zip us).length + 1) k2
  have hmw : (h'.push (kxs_mw "ValueError.__init__" a)).get? h'.objs.size = some (kxs_mw "ValueError.__init__" a) := Heap.get?_push_at rfl rfl
  refine kxs_callWith (i := "ValueError.__init__") (x := a) rfl (Calls.evalArgs_plain (Calls.spliced_cons (Calls.Constant_str (k := j) (pos := p3) (Calls.spliced_nil ⟨hmw, ?_⟩))))
  refine call_mw (X := ncx CX P w K mg base ["self", pn, "__class__"] F' f A outer s H E) ok.oex (I2.tok _) ea hmw (by show 1 ≤ sizeLine; rw [sizeLine_eq]; omega) fun s3 I3 => ?_
  refine wpAt_of_wpAny ?_
  have hlast := (pss_one (ps_ost (X := ncx CX P w K mg base ["self", pn, "__class__"] F' f A outer s H E) (f := fl) (p' := p7) (pos := p9) (o := .Name "self" p6) (e := .Name pn p8) (pe_var (i := 0) rfl self) (pe_var (i := 1) rfl sp hpd hpc) rfl)).run [] s3 _ H { nx := fun _ H' => Q .non H', rt := Q } I3
    ⟨y, rfl, .ref a, rfl, a, Cc, rfl, ok.oex, ok.no, .inl ⟨ea, fun dx h1 h2 => q dx h1 h2⟩⟩
  refine wpAny_mono hlast (fun fl s' hs => ?_) fun e s' hs => hs
  have fin : ∀ {σ' : L2.St} {H' : Hp} {v : V} {u : Value}, L2.Inv (ncx CX P w K mg base ["self", pn, "__class__"] F' f A outer s H E) [] σ' H' s' → L2.RelV v u → Q v H' → CE outer P w H s Q u s' :=
    fun {σ' H' v u} J rv q => ⟨v, H', J.os, J.bare, J.base, J.hok, rv, q⟩
  cases fl with
  | ret u =>
    obtain ⟨v, σ', H', J, rv, q⟩ := hs
    exact fin J rv q
  | next =>
    obtain ⟨σ', H', J, q⟩ := hs
    exact fin (v := V.non) (u := Value.none) J rfl q
  | brk =>
    obtain ⟨_, _, _, q⟩ := hs
    exact False.elim q
  | cont =>
    obtain ⟨_, _, _, q⟩ := hs
    exact False.elim q
end
end PyN
end
section
set_option Elab.async false
set_option linter.all false
set_option maxRecDepth 100000
set_option maxHeartbeats 4000000
/-! PyXT: a caught error that is kept. -/
namespace PyN
open PySem PySem.Spec PyProof.Rows L2
section
variable {X : Cx} {pins : List (Addr × Obj)} {σ : L2.St} {H : Hp} {s : Shared}
theorem trackE {a : Addr} {oe : Obj} {vs : Array Value} {cls : Value} {d : Option Addr} (I : L2.Inv X pins σ H s) (ha : s.heap.get? a = some oe) (hz : Zc cls d oe) (hd : oe.data = .fields vs) (na : H a = none) (nL : a ≠ X.env.locals) (hs : X.s_0.heap.get? a = none) (hp : ∀ p ∈ X.pn ++ pins, p.1 ≠ a) : L2.Inv X pins σ (upd H a (PyA.ExO a cls d)) s where
  ok := I.ok
  os := I.os
  bare := I.bare
  base := {
    keep := I.base.keep
    slot := I.base.slot
    free := fun b o e n hx => by
      rw [upd_ne (fun z => by rw [z, hs] at e; cases e)]
      exact I.base.free b o e n hx
    there := I.base.there
    tups := fun b xs e => by
      have q := I.base.tups b xs e
      rw [upd_ne (ne_of_none q na)]
      exact q
    frzs := fun b o u e => by
      have q := I.base.frzs b o u e
      rw [upd_ne (ne_of_none q na)]
      exact q
    tbls := fun b ps e => by
      obtain ⟨m, q⟩ := I.base.tbls b ps e
      exact ⟨m, by rw [upd_ne (ne_of_none q na)]; exact q⟩ }
  loc := I.loc
  cell := I.cell
  free := by rw [upd_ne (Ne.symm nL)]; exact I.free
  freeC := fun x c e => by
    obtain ⟨v, o, ho, hdc⟩ := I.cell x c e
    rw [upd_ne (fun z => by
      rw [z, ha] at ho
      cases ho
      rw [hd] at hdc
      cases hdc)]
    exact I.freeC x c e
  pin := fun p hm => by
    obtain ⟨h1, h2, h3⟩ := I.pin p hm
    exact ⟨h1, by rw [upd_ne (hp p hm)]; exact h2, h3⟩
  hok := fun b o e => by
    by_cases hb : b = a
    · rw [hb, upd_same] at e
      cases e
      rw [hb]
      exact ⟨⟨oe, vs, ha, hz, hd⟩, ⟨oe, ha⟩, fun h1 h2 ⟨o1, v1, g1, g2, g3⟩ k => ⟨o1, v1, k _ g1, g2, g3⟩⟩
    · rw [upd_ne hb] at e
      exact (I.hok b o e).stay (fun c u _ q => q) (fun c q => by rw [upd_ne (ne_of_none q na)]; exact q) fun c xs q => by rw [upd_ne (ne_of_none q na)]; exact q
  len := I.len
/-- what try .. except x as n: m = n wishes of an exception of the body: slot i is n's, slot j is m's -/
def wKeep (K : PySem.W.Frag) (c : Value) (i j : Nat) (Wout : WX) (D : Ends) : WX := fun cls d σ H =>
  ∃ b, PySem.W.exmOne K cls c = some b ∧ (b = true → ∀ a, H a = none → D.nx (((σ.set i (some (.ref a))).set j (some (.ref a))).set i none) (upd H a (PyA.ExO a cls d))) ∧ (b = false → Wout cls d σ H)
theorem ps_try_keep {x n m : Str} {c : Value} {i j : Nat} {body : List Stmt} {np mp np2 ap pos pos' : Pos} {tb : WX → TS} {Wout : WX} (hex : X.ex = []) (hs : X.stack = X.env :: X.outer) (hf : X.env.frame = some X.env.locals) (hN : X.N.Nodup) (hi : X.N[i]? = some n) (hj : X.N[j]? = some m) (hln : X.env.kindOf n = some .local) (hlm : X.env.kindOf m = some .local) (hc : Names X x c) (tk : Takes X Wout)
    (hdn : (n == ("__debug__" : Str)) = false) (hcn : (n == ("__classdict__" : Str)) = false)
    (hb : ∀ (W : WX) (pn : List (Addr × Obj)) (xe : Value → Shared → Prop), Takes (X.tr pn xe) W → PassesOwn (model X.prog X.w) X.A X.env xe → PSs (X.tr pn xe) body (tb W)) :
    PS X (.Try body [.ExceptHandler (some (.Name x np)) (some n) [.Assign [.Name m mp] (.Name n np2) ap] pos'] [] [] pos) (fun D σ H => tb (wKeep X.K c i j Wout D) D σ H) := by
  refine ⟨fun pins s σ H D I h => ?_⟩
  have ok := I.ok
  have hfr : X.A.frames = some (X.env :: X.outer) := by rw [ok.frames, hs]
  have hloc : Loc X.env.scope n := .inl hln
  refine wpAny_Try_except ?_
  refine wpAny_mono ((hb (wKeep X.K c i j Wout D) (X.pn ++ pins) (fun e s₁ => wpAny (model X.prog X.w) X.A (noteFrame e X.env) (fun _ s₂ => wpAny (model X.prog X.w) X.A (setFlight e none) (fun _ s₃ =>
    wpAny (model X.prog X.w) X.A (handleBy e X.env [.ExceptHandler (some (.Name x np)) (some n) [.Assign [.Name m mp] (.Name n np2) ap] pos']) (SP X pins D) X.xe s₃) X.xe s₂) X.xe s₁) (fun u s' xx => ?_) PassesOwn.looking).run [] s σ H D (I.toTry _) h) (fun f s1 hsp => ?_) (fun e s1 he => he)
  · obtain ⟨a, B, sI, pins', σ', H', cls, d, rfl, J', nb, up, sky, na, os, ag, b, hb1, hyes, hno⟩ := xx
    have J : L2.Inv X pins σ' H' sI := J'.ofTry ok
    have sky' : Sky B (X.env :: X.outer) a (Zc cls d) X.env.locals s'.heap := by rw [← hs]; exact sky
    show wpAny (model X.prog X.w) X.A (noteFrame (.ref a) X.env) _ _ _
    refine Sky.land Zc.steady hfr hf sky' fun h3 fl3 up3 => ?_
    have J3 : L2.Inv X pins σ' H' { s' with heap := h3 } := J.landed nb fl3.1 (up.trans up3) os ag
    obtain ⟨oe3, vs3, he3, hz3, hd3⟩ := fl3.there
    have notFr : ∀ {h : Heap} {o : Obj} {vs : Array Value}, h.FunFrames B (X.env :: X.outer) → h.get? a = some o → o.data = .fields vs → a ∉ frs (X.env :: X.outer) := fun {h o vs} ff e dd hm => by
      obtain ⟨_, o', e', hnf⟩ := ff.mem hm
      rw [e] at e'; cases e'
      exact hnf _ dd
    have nfr := notFr fl3.2.2.1 he3 hd3
    have nL : a ≠ X.env.locals := fun z => nfr (List.mem_filterMap.mpr ⟨X.env, List.mem_cons_self, by rw [hf, z]⟩)
    have nF : a ∉ X.fs := fun hm => by
      obtain ⟨e, he, q⟩ := List.mem_filterMap.mp hm
      exact nfr (List.mem_filterMap.mpr ⟨e, List.mem_cons_of_mem _ he, q⟩)
    -- nothing of it stood before
    have nI : ∀ o, sI.heap.get? a ≠ some o := fun o e => by
      have q := nb a o e (by rw [hs]; exact nfr)
      rw [fl3.2.1] at q
      cases q
    have ns0 : X.s_0.heap.get? a = none := by
      cases q : X.s_0.heap.get? a with
      | none => rfl
      | some o =>
        obtain ⟨o', e'⟩ := J.base.there a o q (by rw [hex]; exact List.not_mem_nil)
        exact absurd e' (nI o')
    have npin : ∀ p ∈ X.pn ++ pins, p.1 ≠ a := fun p hp z => nI p.2 (by rw [← z]; exact (J.pin p hp).1)
    have S3 := J3.suite he3 hd3 na nL nF
    refine wpAny_handleBy_cons (codeAny_handlers_test ?_) (by intro q; cases q)
    have LT : PySem.W.Looks (model X.prog X.w) h3 (typeOf (.ref a)) cls := fun A Q E s k q => wpAny_typeOf_ref (k _ _ he3) (by rw [hz3.1]; exact q)
    have LM := PySem.W.exm_one (M := model X.prog X.w) (J3.kIn) LT hb1
    have test : ∀ {Q : Value → Shared → Prop} {E : Value → Shared → Prop}, Q c { s' with heap := h3 } → wpAny (model X.prog X.w) (X.A.mark (some (.ref a))) (eval (.Name x np) X.env) Q E { s' with heap := h3 } := fun {Q E} q => by
      obtain ⟨hg, hdbg, hm | ⟨hm, hv, hnn⟩⟩ := hc
      · exact ld_glob (X := X.suite a ((a, oe3) :: (X.pn ++ pins))) S3 hg hm q hdbg
      · exact ld_blt (X := X.suite a ((a, oe3) :: (X.pn ++ pins))) S3 hg hm hv q hnn hdbg
    refine test (LM.here ?_)
    cases b with
    | true =>
      refine codeAny_handlers_suite_as ?_
      refine HandSPX.lands_againZ fl3 fun h4 fl4 up4 => ?_
      have J4 : L2.Inv X pins σ' H' { s' with heap := h4 } := J.landed nb fl4.1 ((up.trans up3).trans up4) os ag
      obtain ⟨oe4, vs4, he4, hz4, hd4⟩ := fl4.there
      have S4 := J4.suite he4 hd4 na nL nF
      refine store_ok (X := X.suite a ((a, oe4) :: (X.pn ++ pins))) (v := .ref a) S4 hN hi hloc rfl (fun s5 S5 => ?_) (.inr hln)
      have hil : i < σ'.length := by
        rw [J.len]
        exact (List.getElem?_eq_some_iff.mp hi).1
      have suite := (pss_one (ps_set (X := X.suite a ((a, oe4) :: (X.pn ++ pins))) (i := j) (x := m) (pos' := mp) (pos := ap) hN hj (.inl hlm) (pe_var (i := i) (pos := np2) hi (.inl hln) hdn hcn) rfl (.inr hlm))).run [] s5 _ H'
        { nx := fun σ6 H6 => D.nx (σ6.set i none) (upd H6 a (PyA.ExO a cls d)), rt := fun _ _ => False, bk := fun _ _ => False, ct := fun _ _ => False } S5 ⟨.ref a, by rw [List.getElem?_set_self hil], hyes rfl a na⟩
      refine wpAny_mono suite (fun f s6 hsp => ?_) (fun _ _ z => False.elim z)
      cases f with
      | next =>
        obtain ⟨σ6, H6, S6, q6⟩ := hsp
        obtain ⟨g1, g2, g3, g4, g5⟩ := S6.pin (a, oe4) (List.mem_append_left _ List.mem_cons_self)
        exact gone_ok (trackE (S6.unsuite ok) g1 hz4 hd4 g2 nL ns0 npin) hN hi hln fun s7 J7 => ⟨_, _, J7, q6⟩
      | brk => obtain ⟨_, _, _, q⟩ := hsp; exact q.elim
      | cont => obtain ⟨_, _, _, q⟩ := hsp; exact q.elim
      | ret u => obtain ⟨_, _, _, _, _, q⟩ := hsp; exact q.elim
    | false =>
      show wpAny _ X.A (handleBy (.ref a) X.env []) _ _ _
      refine wpAny_handleBy_nil ?_
      obtain ⟨k1, k2, k3, oe, vs, T, oT, ts', he, hz, hd, h1, hr⟩ := id fl3
      unfold PySem.passOn
      refine wpAny_bind (wpAny_field he hd h1 ?_)
      rw [if_neg (show ¬ ((Value.ref T == Value.none) = true) from by simp)]
      have fin : wpAny (model X.prog X.w) X.A (setFlight (.ref a) X.env.frame) (fun _ s4 => wpAny (model X.prog X.w) X.A (throw (.ref a) : Sem Flow) (SP X pins D) X.xe s4) X.xe { s' with heap := h3 } := by
        rw [hf]
        refine HandSPX.setFlight_upZ fl3 fun h4 hh4 up4 => wpAny_throw (tk _ _ ?_)
        exact ⟨a, B, sI, pins, σ', H', cls, d, rfl, J, nb, (up.trans up3).trans up4, .inr (.inr (by rw [hs]; exact hh4)), na, os, ag, hno rfl⟩
      first
        | exact wpAny_bind (wpAny_pure (wpAny_bind fin))
        | exact wpAny_bind fin
  · cases f with
    | next =>
      obtain ⟨σ', H', J', q⟩ := hsp
      exact wpAny_execs_nil ⟨σ', H', J'.ofTry ok, q⟩
    | brk =>
      obtain ⟨σ', H', J', q⟩ := hsp
      exact ⟨σ', H', J'.ofTry ok, q⟩
    | cont =>
      obtain ⟨σ', H', J', q⟩ := hsp
      exact ⟨σ', H', J'.ofTry ok, q⟩
    | ret u =>
      obtain ⟨v, σ', H', J', r, q⟩ := hsp
      exact ⟨v, σ', H', J'.ofTry ok, r, q⟩
end
end PyN
namespace PyA
open PySem L2 PySem.Spec PyProof.Rows
section
variable {X : Cx} {T : NTabs} {W : WX} {e a b c : Expr} {pos p : Pos} {K : PySem.W.Frag} {w : Wd} {h : Hh}
/-! ### raise C(e), the attribute fl -/
/-- what a raiser of such a class needs: its __init__ is a def of the text (spXI) -/
structure CalX (P : Program) (w : World) (K : PySem.W.Frag) (mg : Str → Option Value) (base : Heap) (c fl : Str) (k : Nat) (ps : List Str) : Prop where
  ex : ∃ D g fd, FnOk P w K mg base (L2.CX P w) k g fd ps (PyN.spXI K D fl) ∧ Binds K fd ps [] ∧ PyN.XIok K (He.ga K c) D fl ∧ PySem.W.findIn K (.ref (He.ga K c)) "__init__" = some (some (.ref g)) ∧ PySem.W.typeIn K (.ref g) = some (.type "function")
  mg : mg c = some (.ref (He.ga K c))
def sRaise1 (c fl : Str) (A : AE) : AS := ⟨fun D e h => A.run e h (fun v h' => D.ex ⟨c, [fl], [v]⟩ e h') (fun x h' => D.ex x e h'), fun q l => A.mono q (fun _ _ q1 => l.ex _ _ _ q1) fun _ _ q1 => l.ex _ _ _ q1⟩
theorem passesF : Passes (L2.CX X.prog X.w) X (fun _ _ _ => False) := fun pins σ H s e s' I ⟨_, _, _, _, _, _, _, _, _, _, _, _, z⟩ => z.elim
theorem ss_raise1 {c fl : Str} {A : AE} {k j : Nat} {ps : List Str} {p2 : Pos} (C : CalX X.prog X.w X.K X.mg X.base c fl k ps) (hc : X.calm = true) (hr : Room j X.A) (hk : k + 1 ≤ j) (tk : Takes X W) (ha : SE X T W a A) (hg : Gl X c := by rfl) (hdb : (c == ("__debug__" : Str)) = false := by decide)
    (he : starEach [a] X.env = (false, eval a X.env) :: starEach [] X.env := by rfl) (hpl : (backTo p2 (starEach [] X.env)).any (·.1) = false := by rfl) : SS X T W (.Raise (some (.Call (.Name c p) [a] [] p2)) none pos) (sRaise1 c fl A) := by
  obtain ⟨D, g, fd, hF, hb, ok, iC, tI⟩ := C.ex
  have hmk := pmk_oex (e := a) (es := []) (p := p) (pos := p2) (ta := tA X.K T W (aCons A aNil)) ok.oex iC tI hF (hr.mono hk) hb .nil passesF hg C.mg (sa_cons ha sa_nil he) hdb he hpl
  refine psImp (ps_raise hc tk hmk) fun D' σ H ⟨w, env, h, e, R, E, q⟩ => ?_
  refine ⟨w, env, h, e, R, E, A.mono q (fun v h1 q1 w1 vs R1 L1 r1 => ?_) fun x h1 q1 => ex_qx E q1⟩
  obtain ⟨vv, ev, rv⟩ := rvs1 r1
  subst ev
  refine ⟨by simp, fun a0 ha0 => ⟨a0, He.ga X.K c, vv, rfl, ok, upd_same, fun dx hdx hne => ?_⟩⟩
  have hd1 : w1.H dx = none := by rw [upd_ne hne] at hdx; exact hdx
  refine ⟨rfl, dx, [(fl, vv)], upd_same, by rw [upd_ne hne, upd_same], hd1, ?_⟩
  have eH : upd (del (upd (upd (upd w1.H a0 (exo a0 (He.ga X.K c) none)) dx (exd dx [(fl, vv)])) a0 (exo a0 (He.ga X.K c) (some dx))) a0) dx (.xd [(fl, vv)]) = (w1.lay dx (.xd [(fl, vv)])).H := by
    funext b
    show _ = upd w1.H dx _ b
    by_cases h1 : b = dx
    · rw [h1, upd_same, upd_same]
    · rw [upd_ne h1, upd_ne h1]
      by_cases h2 : b = a0
      · rw [h2, del_same, ha0]
      · rw [del_ne h2, upd_ne h2, upd_ne h1, upd_ne h2]
  rw [eH]
  have LL := Wd.le_lay (o := .xd [(fl, vv)]) hd1
  exact q1 _ σ _ _ (R1.lay hd1) (L1.trans LL) (E.to (L1.trans LL)) ⟨rfl, .inr ⟨dx, [vv], rfl, R1.ne hd1, upd_same, rfl, RVs.cons (rv.to LL) RVs.nil⟩⟩
/-! ### try: .. except C as n: m = n -/
def exnPV (x : Exn) : PV := .exn x.c x.fs x.vs
/-- et: is the class one of those caught (as told in the head) -/
def sTryK (et : List (Str × Bool)) (i j : Nat) (A : AS) : AS := ⟨fun D e h => A.run { D with ex := fun x e' h' => ∃ b, (x.c, b) ∈ et ∧ if b = true then D.nx (((e'.set i none).set j (some (exnPV x))).set i none) h' else D.ex x e' h' } e h,
  fun q l => A.mono q ⟨l.nx, l.rt, l.bk, l.ct, fun x e' h' ⟨b, m, q1⟩ => ⟨b, m, by
    cases b with
    | true => exact l.nx _ _ q1
    | false => exact l.ex _ _ _ q1⟩⟩⟩
theorem EnvR.none {K : PySem.W.Frag} {w : Wd} {env : Ev} {σ : L2.St} (E : EnvR K w env σ) (i : Nat) (v : Option V) : EnvR K w (env.set i none) (σ.set i v) := by
  refine ⟨by rw [List.length_set, List.length_set]; exact E.1, fun j y e => ?_⟩
  by_cases q : i = j
  · subst q
    by_cases hl : i < env.length
    · rw [List.getElem?_set_self hl] at e
      cases e
    · rw [List.getElem?_eq_none (by rw [List.length_set]; omega)] at e
      cases e
  · rw [List.getElem?_set_ne q] at e
    rw [List.getElem?_set_ne q]
    exact E.2 j y e
theorem ss_tryK {c : Str} {n m : Str} {et : List (Str × Bool)} {i j : Nat} {A : AS} {body : List Stmt} {np mp np2 ap pos' : Pos} (het : ∀ q ∈ et, PySem.W.exmOne X.K (.ref (He.ga X.K q.1)) (.ref (He.ga X.K c)) = some q.2) (hex : X.ex = []) (hs : X.stack = X.env :: X.outer) (hf : X.env.frame = some X.env.locals) (hN : X.N.Nodup) (hm : X.mg c = some (.ref (He.ga X.K c))) (tk : Takes X W)
    (hb : ∀ (W : WX) (pn : List (Addr × Obj)) (xe : Value → Shared → Prop), Takes (X.tr pn xe) W → PassesOwn (model X.prog X.w) X.A X.env xe → SSs (X.tr pn xe) T W body A)
    (hi : X.N[i]? = some n := by rfl) (hj : X.N[j]? = some m := by rfl) (hln : X.env.kindOf n = some .local := by rfl) (hlm : X.env.kindOf m = some .local := by rfl) (hg : Gl X c := by rfl) (hcd : (c == ("__debug__" : Str)) = false := by decide)
    (hdn : (n == ("__debug__" : Str)) = false := by decide) (hcn : (n == ("__classdict__" : Str)) = false := by decide) :
    SS X T W (.Try body [.ExceptHandler (some (.Name c np)) (some n) [.Assign [.Name m mp] (.Name n np2) ap] pos'] [] [] pos) (sTryK et i j A) := by
  refine psImp (PyN.ps_try_keep (tb := fun W => tS X.K T W A) (Wout := W) (c := .ref (He.ga X.K c)) hex hs hf hN hi hj hln hlm ⟨hg, hcd, .inl hm⟩ tk hdn hcn hb) fun D σ H ⟨w, env, h, e, R, E, q⟩ => ?_
  refine ⟨w, env, h, e, R, E, A.mono q ⟨fun _ _ q => q, fun _ _ q => q, fun _ _ q => q, fun _ _ q => q, fun x e' h' ⟨b, hm', q1⟩ w' σ' cls d R' L' E' r' => ?_⟩⟩
  obtain ⟨ec, r'⟩ := r'
  subst ec
  refine ⟨b, het _ hm', fun eb a ha => ?_, fun eb => ?_⟩
  · subst eb
    rw [if_pos rfl] at q1
    have LL := Wd.le_lay (o := ExO a (.ref (He.ga X.K x.c)) d) ha
    have q2 := q1 (w'.lay a (ExO a (.ref (He.ga X.K x.c)) d)) (((σ'.set i (some (.ref a))).set j (some (.ref a))).set i none) (R'.lay ha) (L'.trans LL)
    refine q2 ?_
    refine EnvR.none (EnvR.set (EnvR.none (E'.to LL) i _) j ?_) i none
    unfold exnPV
    rw [RV]
    rcases r' with ⟨e1, e2, e3⟩ | ⟨dd, vs, e1, e2, e3, e4, e5⟩
    · subst e3
      rw [e2]
      exact ⟨a, [], rfl, R'.ne ha, RVs.nil, .inl ⟨e1, rfl, upd_same⟩⟩
    · subst e1
      have ne : dd ≠ a := fun z => by rw [z, ha] at e3; cases e3
      exact ⟨a, vs, rfl, R'.ne ha, e5.to LL, .inr ⟨dd, e2, upd_same, by show upd w'.H a _ dd = _; rw [upd_ne ne]; exact e3, e4⟩⟩
  · subst eb
    rw [if_neg Bool.false_ne_true] at q1
    exact q1 w' σ' _ d R' L' E' ⟨rfl, r'⟩
end
end PyA
end
section
set_option Elab.async false
set_option linter.all false
set_option maxRecDepth 100000
set_option maxHeartbeats 4000000
/-! PyL: lambdas, function values. -/
namespace PyN
open PySem PySem.Spec PyProof.Rows L2 LamX NdefX
section
variable {X : Cx} {pins : List (Addr × Obj)} {σ : L2.St} {H : Hp} {s : Shared}
theorem inv_lam {d : PyA.LamD} {cl : List (Str × Addr)} {c' : Addr} {t' : Nat} {pm ctv : Value} (I : L2.Inv X pins σ H s) :
    L2.Inv X pins σ (upd H s.heap.objs.size (PyA.LamO s.heap.objs.size d cl c')) { s with heap := s.heap.push (PySem.W.kla_obj "<lambda>" d.qual d.params d.body d.scope cl pm c' ctv), toks := t' } := by
  refine I.laid (a := s.heap.objs.size) (fun b u e => Heap.get?_push_of_some _ e) (Nat.le_refl _) ?_
  have e : (s.heap.push (PySem.W.kla_obj "<lambda>" d.qual d.params d.body d.scope cl pm c' ctv)).get? s.heap.objs.size = some (PySem.W.kla_obj "<lambda>" d.qual d.params d.body d.scope cl pm c' ctv) := Heap.get?_push_size _ rfl
  exact ⟨⟨pm, ctv, e⟩, ⟨_, e⟩, fun h1 h2 ⟨p, t, z⟩ st => ⟨p, t, st _ z⟩⟩
/-- the lambda is made; its object is known from now on -/
theorem lam_make3 {T : List NTab} {nm : Nat → Nat → Str} {c P : Addr} {params : Arguments} {body : Expr} {scope : Scope} {pos : Pos} {E : Value → Shared → Prop} {Q : Value → Shared → Prop} (I : L2.Inv X pins σ H s) (TB : TabB X.base X.mg c P) (hcode : X.env.code = .ref c)
    (hm : (P, nm) ∈ T) (hn : nm pos.line pos.col = X.env.qual ++ "<lambda>") (hu : ∀ p ∈ T, p.1 = P → p.2 = nm) (hT : TabsN T H) (hdef : defaultsOf params X.env = ([], [])) (hfree : ∀ y ∈ scope.names, y.2 = .free → ∃ c, X.env.cells.lookup y.1 = some c)
    (h : ∀ (f c' : Addr) (H1 : Hp) (s' : Shared), L2.Inv X pins σ H1 s' → ExtN H H1 → (∀ b, H1 b = Option.none → H b = Option.none) → TabsN T H1 → H f = none → H1 f = some (PyA.LamO f ⟨X.env.qual ++ "<lambda>", params, body, scope⟩ (cloFrom X.env.cells scope.names []) c') → H1 c' = some (CodeO c' (X.env.qual ++ "<lambda>")) → (H c' = none ∨ H c' = some (CodeO c' (X.env.qual ++ "<lambda>"))) → Q (.ref f) s') :
    wpAny (model X.prog X.w) X.A (eval (.Lambda params body scope pos) X.env) Q E s := by
  obtain ⟨ps, hP, ht, ha⟩ := (show TabN H P nm from hT _ hm)
  refine PySem.W.kla_eval hdef ?_
  have bP : s.heap.BuiltinsAt X.mg P := TB.bm.keeps I.bk
  have hP' : s.heap.get? P = some { cls := .none, data := .fields ps } := I.hok P _ hP
  cases hc : codeAmong pos ps.toList with
  | none =>
    refine PySem.W.kla_makeFunction (mg := X.mg) (c := c) (P := P) (ps := ps) (closure_ok hfree) I.ok.glob (I.mod.glob.keeps I.bk) hcode (TB.code.keeps I.bk) hP' ht hc TB.gP bP fun c' ctv h' tk hx hge hlt hrec htb => ?_
    obtain ⟨c2, oc, vs, t, e2, hoc, hd, hv⟩ := hrec
    cases e2
    have nC : H c' = none := I.hok.fresh hge
    have I1 := inv_table (t' := tk) (more := #[rawInt pos.line, rawInt pos.col, .ref c']) (h' := h') I hP (fun b o hb e => hx b o hb e) htb hge ⟨oc, vs, t, hoc, hd, hv⟩
    have hE : ExtN H (upd (upd H P (.tbl (ps ++ #[rawInt pos.line, rawInt pos.col, .ref c']))) c' (CodeO c' (X.env.qual ++ "<lambda>"))) := fun b o e n => by
      rw [upd_ne (ne_of_none e nC), upd_ne (fun z => n ps (Option.some.inj (e.symm.trans (by rw [z]; exact hP))))]
      exact e
    have eL : (ps ++ #[rawInt pos.line, rawInt pos.col, .ref c']).toList = ps.toList ++ [rawInt pos.line, rawInt pos.col, .ref c'] := by simp
    have T1 : TabsN T (upd (upd H P (.tbl (ps ++ #[rawInt pos.line, rawInt pos.col, .ref c']))) c' (CodeO c' (X.env.qual ++ "<lambda>"))) := fun p hp => by
      by_cases hb : p.1 = P
      · rw [hu p hp hb, hb]
        refine ⟨_, by rw [upd_ne (ne_of_none hP nC), upd_same], by rw [eL]; exact PySem.TriplesOk_snoc _ _ _ _ ht, fun p' cv hcv => ?_⟩
        rw [eL] at hcv
        rcases among_app2 _ ht hcv with z | ⟨z, z1, z2⟩
        · obtain ⟨c0, e1, e2⟩ := ha p' cv z
          exact ⟨c0, e1, hE _ _ e2 codeO_ne⟩
        · refine ⟨c', z, ?_⟩
          rw [← z1, ← z2, hn]
          exact upd_same
      · obtain ⟨ps', a1, a2, a3⟩ := hT p hp
        refine ⟨ps', by rw [upd_ne (ne_of_none a1 nC), upd_ne hb]; exact a1, a2, fun p' cv hcv => ?_⟩
        obtain ⟨c0, e1, e2⟩ := a3 p' cv hcv
        exact ⟨c0, e1, hE _ _ e2 codeO_ne⟩
    have nF := I1.hok.fresh (Nat.le_refl _)
    have I2 := inv_lam (d := ⟨X.env.qual ++ "<lambda>", params, body, scope⟩) (cl := cloFrom X.env.cells scope.names []) (c' := c') (t' := tk) (pm := (X.mg "__name__").getD .none) (ctv := ctv) I1
    refine h h'.objs.size c' _ _ I2 (fun b o e n => ?_) (fun b e => upd_none (upd_none (upd_none e))) (T1.ext fun b o e => ?_) (I.hok.fresh (Nat.le_trans hge (Nat.le_of_lt hlt))) upd_same ?_ (.inl nC)
    · have e1 := hE b o e n
      exact (upd_ne (ne_of_none e1 nF)).trans e1
    · exact (upd_ne (ne_of_none e nF)).trans e
    · exact (upd_ne (Nat.ne_of_lt hlt)).trans upd_same
  | some cv =>
    obtain ⟨c', e, hco⟩ := ha pos cv hc
    subst e
    rw [hn] at hco
    refine PySem.W.kla_makeFunctionHit (mg := X.mg) (c := c) (P := P) (ps := ps) (closure_ok hfree) I.ok.glob (I.mod.glob.keeps I.bk) hcode (TB.code.keeps I.bk) hP' ht hc bP fun ctv h' tk hx hsz => ?_
    have I1 : L2.Inv X pins σ H { s with heap := h', toks := tk } := I.kept hx
    have nF : H h'.objs.size = none := I1.hok.fresh (Nat.le_refl _)
    have I2 := inv_lam (d := ⟨X.env.qual ++ "<lambda>", params, body, scope⟩) (cl := cloFrom X.env.cells scope.names []) (c' := c') (t' := tk) (pm := (X.mg "__name__").getD .none) (ctv := ctv) I1
    refine h h'.objs.size c' _ _ I2 (fun b o e n => ?_) (fun b e => upd_none e) (hT.ext fun b o e => ?_) nF upd_same ?_ (.inr hco)
    · exact (upd_ne (ne_of_none e nF)).trans e
    · exact (upd_ne (ne_of_none e nF)).trans e
    · exact (upd_ne (ne_of_none hco nF)).trans hco
end
end PyN
namespace PyA
open PySem L2 PySem.Spec PyProof.Rows NdefX
/-! ### what a function value keeps -/
structure CloOk (P : Program) (w : World) (K : PySem.W.Frag) (mg : Str → Option Value) (base : Heap) (T : NTabs) (k : Nat) (fs : List Addr) (s : Shared) (H : Hp) (x : PV) (F : AF) : Prop where
  at_ : ∀ (A' : Around) (outer' : List Env) (s' : Shared) (w' : Wd) (v : V) (u : Value), Env0 P w K mg base A' outer' s' w'.H → RV K w' x v → RelV v u → ∃ f, u = .ref f ∧ PySem.W.FnAt f s'.heap
  run : ∀ (A' : Around) (outer' : List Env) (s' : Shared) (w' : Wd) (h' : Hh) (v : V) (u : Value) (us : List Value) (vs : List V) (xs : List PV) (Q : VK) (E : XK), Room k A' → Env0 P w K mg base A' outer' s' w'.H → Un fs [] H w'.H s.heap s'.heap → Rel K T w' h' → RV K w' x v → RelV v u → Vals vs us → RVs K w' xs vs →
    F.run xs h' (fun y h2 => ∀ w2 v, Rel K T w2 h2 → w'.Le w2 → RV K w2 y v → Q v w2.H) (fun y h2 => ∀ w2 cls d, Rel K T w2 h2 → w'.Le w2 → ExR K w2 y cls d → E cls d w2.H) →
    codeAny (model P w) A' (.call u ⟨us, []⟩) (CR (L2.CX P w) outer' P w w'.H s' Q E) s'
abbrev PhiT := PV → AF → Prop
/-- a lambda, ys what it captured: np parameters, n slots in all -/
def mkL (np n : Nat) (ys : List PV) (B : AE) : AF := ⟨np, fun xs h Q R => xs.length = np ∧ B.run ((xs ++ ys).map some ++ List.replicate (n - (xs ++ ys).length) none) h Q R, fun ⟨l, q⟩ f g => ⟨l, B.mono q f g⟩, fun q => q.1⟩
section
variable {P : Program} {w : World} {K : PySem.W.Frag} {mg : Str → Option Value} {base : Heap} {T : NTabs}
/-- what its cells hold, later -/
theorem cells_later {cl : List (Str × Addr)} {fr : List Str} {ws : List (Option V)} {h h' : Heap} {H H' : Hp} {fs : List Addr} (C : CellsAt cl fr ws h H) (u : Un fs [] H H' h h') : CellsAt cl fr ws h' H' := by
  have kp : ∀ c, H c = none → ∀ v, h.IsCell c v → h'.IsCell c v := fun c n v ⟨o, ho, hd⟩ => by
    obtain ⟨sl, q⟩ := u.any ho n (by simp)
    exact ⟨_, q, hd⟩
  refine ⟨C.len, fun y c e => ?_, C.inj, fun i y e => ?_⟩
  · obtain ⟨n, v, z⟩ := C.all y c e
    refine ⟨?_, v, kp c n v z⟩
    obtain ⟨o, ho, _⟩ := z
    exact u.free c o ho n (by simp)
  · obtain ⟨c, hc, hv⟩ := C.has i y e
    refine ⟨c, hc, fun v ev => ?_⟩
    obtain ⟨u, r, z⟩ := hv v ev
    exact ⟨u, r, kp c (C.all y c hc).1 _ z⟩
abbrev nfOf (d : LamD) (cl : List (Str × Addr)) (c : Addr) : NF := ⟨"<lambda>", d.qual, d.params, [], d.scope, cl, c⟩
/-- what of its text a lambda must have -/
structure LamOk (P : Program) (w : World) (K : PySem.W.Frag) (mg : Str → Option Value) (base : Heap) (T : NTabs) (k : Nat) (d : LamD) (N ps fr : List Str) (np n : Nat) (B : AE) : Prop where
  S : NScope N ps fr d.scope
  hn : N.length = n
  hp : ps.length = np
  bind : ∀ (cl : List (Str × Addr)) (pm cv ctv : Value) (us : List Value), us.length = ps.length → bindArgs (PySem.W.kla_fn "<lambda>" d.qual d.params d.body d.scope cl pm cv ctv) ⟨us, []⟩ = pure (ps.zip us)
  body : ∀ (cl : List (Str × Addr)) (f c : Addr) (A : Around) (outer : List Env) (s : Shared) (H : Hp) (E : XK) (W : WX), Room k (A.deeper (envF (nfOf d cl c) f s.heap.objs.size)) → Takes (ncx (L2.CX P w) P w K mg base N (nfOf d cl c) f A outer s H E) W →
    SE (ncx (L2.CX P w) P w K mg base N (nfOf d cl c) f A outer s H E) T W d.body B
theorem fnAt_lam {A' : Around} {outer' : List Env} {s' : Shared} {w' : Wd} {d : LamD} {f c : Addr} {cl : List (Str × Addr)} {ys : List PV} {vs : List V} {v : V} {u : Value} (e0 : Env0 P w K mg base A' outer' s' w'.H) (r : RV K w' (.clo d f c cl ys vs) v) (ru : RelV v u) : u = .ref f ∧ ∃ pm ctv, s'.heap.get? f = some (PySem.W.kla_obj "<lambda>" d.qual d.params d.body d.scope cl pm c ctv) := by
  rw [RV] at r
  obtain ⟨e, _, h1, _, h2, _⟩ := r
  subst e
  obtain ⟨z, _, _⟩ := e0.hok f _ h1
  exact ⟨ru, z⟩
theorem startF_env {w : Wd} {xs ys : List PV} {vs us : List V} {N : List Str} {n : Nat} (rx : RVs K w xs vs) (ry : RVs K w ys us) (hN : N.length = n) (hl : xs.length + ys.length ≤ n) : EnvR K w ((xs ++ ys).map some ++ List.replicate (n - (xs ++ ys).length) none) (startF N vs (us.map some)) := by
  have e : startF N vs (us.map some) = L2.start N (vs ++ us) := by
    unfold startF L2.start
    rw [List.map_append, List.append_assoc, List.length_map, List.length_append, Nat.sub_sub]
  rw [e]
  exact EnvR.start (RVs.append rx ry) hN (by rw [List.length_append]; exact hl)
theorem clo_ok {k : Nat} {d : LamD} {N ps fr : List Str} {np n : Nat} {B : AE} (L : LamOk P w K mg base T k d N ps fr np n B) {fs : List Addr} {s : Shared} {H : Hp} {f c : Addr} {cl : List (Str × Addr)} {ys : List PV} {us : List V} (C : CellsAt cl fr (us.map some) s.heap H) (hl : ys.length = fr.length) :
    CloOk P w K mg base T (k + 1) fs s H (.clo d f c cl ys us) (mkL np n ys B) where
  at_ := fun A' outer' s' w' v u e0 r ru => by
    obtain ⟨e, pm, ctv, z⟩ := fnAt_lam e0 r ru
    exact ⟨f, e, _, _, _, _, z⟩
  run := fun A' outer' s' w' h' v u as vs xs Q E hr e0 un R r ru rv rx q => by
    obtain ⟨e, pm, ctv, of1⟩ := fnAt_lam e0 r ru
    subst e
    obtain ⟨hx, q⟩ := q
    have C' := cells_later C un
    have r' := r
    rw [RV] at r'
    obtain ⟨_, _, h1, _, hc, ry⟩ := r'
    have lim : s'.heap.NoLimit := e0.mod.nolimit.keeps fun b o e => (e0.bs b o e).1
    obtain ⟨⟨oc, vs0, t, hoc, hdc, hvc⟩, _, _⟩ := e0.hok c _ hc
    have hlv : vs.length = ps.length := by rw [← rx.length, hx, L.hp]
    have hla : as.length = ps.length := by rw [← rv.length]; exact hlv
    have S := L.S
    refine PySem.W.kla_callFunE hr.depth of1 rfl S.co S.gen rfl ⟨c, oc, vs0, t, rfl, hoc, hdc, hvc⟩ ?_
    rw [L.bind cl pm _ ctv as hla]
    refine wpAny_pure (wpAny_newFunctionEnv S.nocell (fun ⟨n, _⟩ hy => S.par n (List.of_mem_zip hy).1) (fun h₁ hns hsb => ⟨lim.fresh _ hsb, ?_⟩) S.kind)
    show codeAny _ _ (.expr d.body (envF (nfOf d cl c) f s'.heap.objs.size)) _ _
    have kp : ∀ b o, s'.heap.get? b = some o → h₁.get? b = some o := fun b o e => hsb.extBut b o (Nat.ne_of_lt (Heap.lt_size e)) (Heap.get?_push_of_some _ e)
    have J : L2.Inv (ncx (L2.CX P w) P w K mg base N (nfOf d cl c) f A' outer' s' w'.H E) [] (startF N vs (us.map some)) w'.H { s' with heap := h₁, toks := s'.toks + (ps.zip as).length } := inv_startN S hr.hd e0 hlv rv C' hns kp
    have hpl : ps.length + fr.length ≤ N.length := by
      have q := congrArg List.length S.pre
      rw [List.length_take, List.length_append] at q
      omega
    have hb := (L.body cl f c A' outer' s' w'.H E (fun cls d _ H => E cls d H) (hr.deeper _) (takes_of rfl rfl rfl rfl)).run [] _ _ w'.H Q J
      ⟨w', _, h', rfl, R, startF_env rx ry L.hn (by rw [hx, ← L.hp, hl, ← L.hn]; exact hpl), B.mono q (fun y h2 q2 => q2) fun y h2 q2 => q2⟩
    refine PySem.W.kla_codeExpr (wpAny_mono hb (fun v' s2 hq => ?_) fun e s2 hq => hq)
    obtain ⟨w2, H2, J', rv2, q2⟩ := hq
    exact ⟨w2, H2, J'.os, J'.bare, J'.base, J'.hok, rv2, q2⟩
/-- a def of the module as a value -/
theorem gf_ok {x : Str} {k : Nat} {ps : List Str} {F : AF} (C : Cal P w K mg base T x k ps F) (hl : ∃ o, K.lookup (He.ga K x) = some o ∧ ∃ fd, o.data = .func fd) {fs : List Addr} {s : Shared} {H : Hp} : CloOk P w K mg base T k fs s H (.gf x) F where
  at_ := fun A' outer' s' w' v u e0 r ru => by
    rw [RV] at r
    subst r
    obtain ⟨⟨oc, od, dt, sl⟩, h1, fd, h2⟩ := hl
    dsimp only at h2
    subst h2
    exact ⟨_, ru, _, _, _, _, (e0.bs _ _ (e0.mod.kin _ _ h1)).1⟩
  run := fun A' outer' s' w' h' v u as vs xs Q E hr e0 un R r ru rv rx q => by
    rw [RV] at r
    subst r
    cases (show u = Value.ref (He.ga K x) from ru)
    obtain ⟨fd, hF, hb⟩ := C.ex
    have KX : K.In s'.heap := e0.mod.kin.keeps fun b o e => (e0.bs b o e).1
    have sp : spA K T F vs w'.H Q E := ⟨w', h', xs, rfl, R, rx, q⟩
    have hl : (as ++ []).length = ps.length := by rw [List.append_nil, ← rv.length]; exact hF.len _ _ _ _ sp
    have hb' := hb s' as KX hl
    rw [List.append_nil] at hb'
    exact hF.run A' outer' s' w'.H ⟨as, []⟩ as vs Q E hr e0 hb' rv sp
end
/-! ### a def that is given functions -/
structure FnF (P : Program) (w : World) (K : PySem.W.Frag) (mg : Str → Option Value) (base : Heap) (T : NTabs) (k kc : Nat) (g : Addr) (fd : FuncData) (ps : List Str) (WF : PhiT → AF) : Prop where
  n : ∀ Φ, (WF Φ).n = ps.length
  run : ∀ (A : Around) (outer : List Env) (s : Shared) (H : Hp) (args : Args) (us : List Value) (vs : List V) (Q : VK) (E : XK) (Φ : PhiT), Room k A → Env0 P w K mg base A outer s H → BindsTo s fd args (ps.zip us) → Vals vs us → (∀ x F, Φ x F → CloOk P w K mg base T kc (frs outer) s H x F) → spA K T (WF Φ) vs H Q E →
    codeAny (model P w) A (.call (.ref g) args) (CR (L2.CX P w) outer P w H s Q E) s
section
variable {P : Program} {w : World} {K : PySem.W.Frag} {mg : Str → Option Value} {base : Heap} {T : NTabs} {x qual : Str} {params : Arguments} {body : List Stmt} {scope : Scope} {dvs : List V} {kws : List (Str × V)} {f : Addr} {fd : FuncData}
theorem fnF_sound {N ps : List Str} {np n k kc : Nat} {B : PhiT → AS} (F : FunD K x qual params body scope dvs kws f fd) (S : FnScope N ps scope) (hn : N.length = n) (hp : ps.length = np) (hnp : np ≤ n)
    (hb : ∀ (Φ : PhiT) (cdv : Value) (A : Around) (outer : List Env) (s : Shared) (H : Hp) (E : XK) (W : WX), Room k (A.deeper (envOfC qual scope s.heap.objs.size f cdv)) → Takes (cxOf (L2.CX P w) P w K mg base N qual scope f cdv A outer s H E) W → (∀ x F, Φ x F → CloOk P w K mg base T kc (frs outer) s H x F) →
      SSs (cxOf (L2.CX P w) P w K mg base N qual scope f cdv A outer s H E) T W body (B Φ)) : FnF P w K mg base T (k + 1) kc f fd ps (fun Φ => mkF np n (B Φ)) where
  n := fun Φ => hp.symm
  run := fun A outer s H args us vs Q E Φ hr e0 hbd r hΦ sp => by
    obtain ⟨oc, od, dV, kV, doc, pm, an, cdv, ct, osl, rfl, lk, hcd, _, _⟩ := F.ex
    have hl : vs.length = ps.length := (spA_len sp).trans hp.symm
    refine LamX.run_ofS lk hcd S hr e0 hbd r hl fun hr' => ?_
    obtain ⟨w1, h, xs, e, R, rx, hx, q⟩ := sp
    refine ⟨_, hb Φ cdv A outer s H E (fun cls d _ H => E cls d H) hr' (takes_of rfl rfl rfl rfl) hΦ, w1, _, h, e, R, EnvR.start rx hn (hx ▸ hnp), B Φ |>.mono q ?_⟩
    refine ⟨fun _ h' q w' σ' R' L' E' => q w' .non R' L' (by rw [RV]), fun x h' q w' v R' L' r' => q w' v R' L' r', fun _ _ q => q.elim, fun _ _ q => q.elim, fun x e' h' q w' σ' cls d R' L' E' r' => q w' cls d R' L' r'⟩
end
/-- what a caller needs of it -/
structure CalF (P : Program) (w : World) (K : PySem.W.Frag) (mg : Str → Option Value) (base : Heap) (T : NTabs) (x : Str) (k kc : Nat) (ps : List Str) (WF : PhiT → AF) : Prop where
  ex : ∃ fd, FnF P w K mg base T k kc (He.ga K x) fd ps WF ∧ Binds K fd ps []
  mg : mg x = some (.ref (He.ga K x))
  kp : PySem.W.keepIn K (.ref (He.ga K x)) = true
section
variable {X : Cx} {T : NTabs} {W : WX} {e a b c : Expr} {pos p : Pos}
/-! ### a parameter called -/
def aCallP (i : Nat) (Φ : PhiT) (B : AA) : AE := ⟨fun e h Q R => ∃ x F, e[i]? = some (some x) ∧ Φ x F ∧ B.run e h (fun xs h1 => F.run xs h1 Q R) R, fun ⟨x, F, a, b, q⟩ f g => ⟨x, F, a, b, B.mono q (fun _ _ q1 => F.mono q1 f g) g⟩⟩
theorem run_clo {k j : Nat} {x : PV} {F : AF} (hex : X.ex = []) (C : CloOk X.prog X.w X.K X.mg X.base T k X.fs X.s_0 X.H_0 x F) (hr : Room j X.A) (hk : k ≤ j) (tk : Takes X W) {pins : List (Addr × Obj)} {σ : L2.St} {s : Shared} {w : Wd} {h : Hh} {v : V} {u : Value} {us : List Value} {vs : List V} {xs : List PV} {Q : VK} (I : L2.Inv X pins σ w.H s) (R : Rel X.K T w h) (r : RV X.K w x v) (ru : RelV v u) (rv : Vals vs us) (rx : RVs X.K w xs vs)
    (q : F.run xs h (fun y h2 => ∀ w2 v, Rel X.K T w2 h2 → w.Le w2 → RV X.K w2 y v → Q v w2.H) (qx X.K T W w σ)) : wpAny (model X.prog X.w) X.A (call u us) (EP X pins σ Q) X.xe s := by
  have un : Un X.fs [] X.H_0 w.H X.s_0.heap s.heap := hex ▸ I.base
  obtain ⟨f, e, _⟩ := C.at_ X.A X.stack s w v u I.env0 r ru
  subst e
  refine wpAny_call (codeAny_mono (C.run X.A X.stack s w h v _ us vs xs Q (WE W σ) (hr.mono hk) I.env0 un R r ru rv rx (F.mono q (fun _ _ q => q) fun y h2 q2 w2 cls d R2 L2 r2 => q2 w2 cls d R2 L2 r2)) fun r s' hq => ?_)
  cases r with
  | error e => exact passAt tk σ pins w.H s e s' I hq
  | ok fl =>
    cases fl with
    | ret u => exact I.after hq
    | next => exact False.elim hq
    | brk => exact False.elim hq
    | cont => exact False.elim hq
theorem se_callP {k j i : Nat} {x : Str} {Φ : PhiT} {B : AA} {es : List Expr} (hΦ : ∀ x F, Φ x F → CloOk X.prog X.w X.K X.mg X.base T k X.fs X.s_0 X.H_0 x F) (hex : X.ex = []) (hr : Room j X.A) (hk : k ≤ j) (tk : Takes X W) (ha : SA X T W (e :: es) B) (hN : X.N[i]? = some x := by rfl) (hv : Vis X.env.scope x := by first | exact Or.inl rfl | exact Or.inr (Or.inl rfl) | exact Or.inr (Or.inr rfl))
    (hd : (x == ("__debug__" : Str)) = false := by decide) (hcd : (x == ("__classdict__" : Str)) = false := by decide)
    (he : starEach (e :: es) X.env = (false, eval e X.env) :: starEach es X.env := by rfl) (hpl : (backTo pos (starEach es X.env)).any (·.1) = false := by rfl) : SE X T W (.Call (.Name x p) (e :: es) [] pos) (aCallP i Φ B) := by
  refine ⟨fun pins s σ H Q I q => ?_⟩
  obtain ⟨w, env, h, e0, R, E, y, F, ei, hy, q⟩ := q
  subst e0
  obtain ⟨v, ev, r⟩ := E.2 i y ei
  have C := hΦ y F hy
  refine wpAny_Call_Name_kw (thn ((pe_var (pos := p) hN hv hd hcd).run pins s σ w.H (fun v' H1 => v' = v ∧ H1 = w.H) I ⟨v, ev, rfl, rfl⟩) fun u s1 ⟨v1, H1, I1, r1, q1⟩ => ?_)
  obtain ⟨e1, e2⟩ := q1
  subst e1
  subst e2
  obtain ⟨f, ef, hf⟩ := C.at_ X.A X.stack s1 w v1 u I1.env0 r r1
  subst ef
  have qa : tA X.K T W B σ w.H (fun vs H2 => ∃ w2 h2 xs, w2.H = H2 ∧ w.Le w2 ∧ Rel X.K T w2 h2 ∧ RVs X.K w2 xs vs ∧ F.run xs h2 (fun y h3 => ∀ w3 v, Rel X.K T w3 h3 → w2.Le w3 → RV X.K w3 y v → Q v w3.H) (qx X.K T W w2 σ)) :=
    ⟨w, env, h, rfl, R, E, B.mono q (fun xs h1 q1 w1 vs R1 L1 r1 => ⟨w1, h1, xs, rfl, L1, R1, r1, F.mono q1 (fun y h2 q2 w2 v R2 L2 r2 => q2 w2 v R2 (L1.trans L2) r2) fun x h2 q2 => qx_le L1 q2⟩) fun _ _ q1 => q1⟩
  refine PySem.W.callWith_F (first := []) hf (thn (ha.run pos pins s1 σ w.H _ I1 qa) fun us s2 ⟨vs, H2, I2, rv, w2, h2, xs, e2, L2, R2, rx, q2⟩ => ?_) he hpl
  subst e2
  obtain ⟨f2, ef2, hf2⟩ := C.at_ X.A X.stack s2 w2 v1 _ I2.env0 (r.to L2) r1
  cases ef2
  exact ⟨hf2, run_clo hex C hr hk tk I2 R2 (r.to L2) r1 rv rx q2⟩
theorem se_callP0 {k j i : Nat} {x : Str} {Φ : PhiT} (hΦ : ∀ x F, Φ x F → CloOk X.prog X.w X.K X.mg X.base T k X.fs X.s_0 X.H_0 x F) (hex : X.ex = []) (hr : Room j X.A) (hk : k ≤ j) (tk : Takes X W) (hN : X.N[i]? = some x := by rfl) (hv : Vis X.env.scope x := by first | exact Or.inl rfl | exact Or.inr (Or.inl rfl) | exact Or.inr (Or.inr rfl))
    (hd : (x == ("__debug__" : Str)) = false := by decide) (hcd : (x == ("__classdict__" : Str)) = false := by decide) : SE X T W (.Call (.Name x p) [] [] pos) (aCallP i Φ aNil) := by
  refine ⟨fun pins s σ H Q I q => ?_⟩
  obtain ⟨w, env, h, e0, R, E, y, F, ei, hy, q⟩ := q
  subst e0
  obtain ⟨v, ev, r⟩ := E.2 i y ei
  have C := hΦ y F hy
  refine wpAny_Call_Name_kw (thn ((pe_var (pos := p) hN hv hd hcd).run pins s σ w.H (fun v' H1 => v' = v ∧ H1 = w.H) I ⟨v, ev, rfl, rfl⟩) fun u s1 ⟨v1, H1, I1, r1, q1⟩ => ?_)
  obtain ⟨e1, e2⟩ := q1
  subst e1
  subst e2
  obtain ⟨f, ef, hf⟩ := C.at_ X.A X.stack s1 w v1 u I1.env0 r r1
  subst ef
  exact PySem.W.callWith_F0 hf (run_clo hex C hr hk tk I1 R r r1 .nil RVs.nil q)
/-! ### a def called, a lambda its last argument -/
def capE (e : Ev) : List Nat → Option (List PV)
  | [] => some []
  | j :: js => match e[j]? with
    | some (some x) => (capE e js).map (x :: ·)
    | _ => none
theorem cap_rv {K : PySem.W.Frag} {w : Wd} {e : Ev} {σ : L2.St} (E : EnvR K w e σ) : ∀ {js : List Nat} {ys : List PV}, capE e js = some ys → ∃ us, js.map (slotAt σ) = us.map some ∧ RVs K w ys us
  | [], ys, h => by cases h; exact ⟨[], rfl, RVs.nil⟩
  | j :: js, ys, h => by
    unfold capE at h
    split at h
    · rename_i x hx
      obtain ⟨r, h1, h2⟩ := Option.map_eq_some_iff.mp h
      subst h2
      obtain ⟨us, e1, r1⟩ := cap_rv E h1
      obtain ⟨v, ev, rv⟩ := E.2 j x hx
      exact ⟨v :: us, by rw [List.map_cons, List.map_cons, e1, slotAt_of ev], RVs.cons rv r1⟩
    · cases h
/-- B: the arguments ahead of it -/
def aCallL (WF : PhiT → AF) (Φ0 : PhiT) (d : LamD) (js : List Nat) (Ls : List PV → AF) (B : AA) : AE := ⟨fun e h Q R => B.run e h (fun xs h1 => ∃ ys, capE e js = some ys ∧ ∀ f c cl us, (WF fun x F => (x = .clo d f c cl ys us ∧ F = Ls ys) ∨ Φ0 x F).run (xs ++ [.clo d f c cl ys us]) h1 Q R) R,
  fun q f g => B.mono q (fun _ _ ⟨ys, a, q1⟩ => ⟨ys, a, fun f1 c cl us => (WF _).mono (q1 f1 c cl us) f g⟩) g⟩
/-- the world behind the lambda -/
theorem lam_world {K : PySem.W.Frag} {w : Wd} {h : Hh} {H1 : Hp} {d : LamD} {f c : Addr} {cl : List (Str × Addr)} {ys : List PV} {us : List V} (R : Rel K T w h) (eN : LamX.ExtN w.H H1) (dn : ∀ b, H1 b = none → w.H b = none) (T1 : NdefX.TabsN T H1) (hf : w.H f = none) (h1 : H1 f = some (LamO f d cl c)) (hc : H1 c = some (LamX.CodeO c d.qual)) (hc0 : w.H c = none ∨ w.H c = some (LamX.CodeO c d.qual)) (r : RVs K w ys us) :
    ∃ w' : Wd, w'.H = H1 ∧ Rel K T w' h ∧ w.Le w' ∧ RV K w' (.clo d f c cl ys us) (.ref f) := by
  have L : w.Le ⟨w.m, w.n, H1⟩ := ⟨Nat.le_refl _, fun _ _ => rfl, fun a o e _ nt => eN a o e nt, fun i h1 h2 => absurd h1 (Nat.not_le.mpr h2), fun a ha z => ha (dn a z), fun a od o e => eN a _ e (fun ps z => by cases z)⟩
  have R1 : Rel K T ⟨w.m, w.n, H1⟩ h := ⟨R.len, R.inj, fun i cc e => by
    have hcl := R.cell i cc e
    obtain ⟨u, hu, nt, _⟩ := hcl.ob
    exact hcl.to L ((eN _ _ hu nt).trans hu.symm), T1⟩
  have oc : w.Off c := by
    rcases hc0 with z | z
    · exact R.ne z
    · intro i hi e
      obtain ⟨cc, _, hcl⟩ := R.at hi
      exact hcl.noExt _ (by rw [e]; exact z)
  refine ⟨_, rfl, R1, L, ?_⟩
  rw [RV]
  exact ⟨rfl, fun i hi => R.ne hf i hi, h1, fun i hi => oc i hi, hc, r.to L⟩
/-- what the text around a lambda must have -/
structure LamAt (X : Cx) (T : NTabs) (params : Arguments) (scope : Scope) (pos : Pos) (fr : List Str) (js : List Nat) : Prop where
  tb : ∃ nm c P, LamX.TabB X.base X.mg c P ∧ X.env.code = .ref c ∧ (P, nm) ∈ T ∧ nm pos.line pos.col = X.env.qual ++ "<lambda>" ∧ ∀ p ∈ T, p.1 = P → p.2 = nm
  dfl : defaultsOf params X.env = ([], [])
  free : ∀ y ∈ scope.names, y.2 = .free → X.env.scope.names.lookup y.1 = some .cell ∨ X.env.scope.names.lookup y.1 = some .free
  hfr : ∀ y ∈ fr, (y, NameKind.free) ∈ scope.names
  hjs : js.map (fun j => X.N[j]?) = fr.map some
theorem LamAt.has {params : Arguments} {scope : Scope} {fr : List Str} {js : List Nat} (L : LamAt X T params scope pos fr js) (ok : X.Ok) : ∀ y ∈ scope.names, y.2 = .free → ∃ c, X.env.cells.lookup y.1 = some c := fun y hy e => (L.free y hy e).elim (fun z => ok.has _ (.inl z)) fun z => ok.has _ (.inr z)
theorem lam_call {k kc kl j : Nat} {x : Str} {ps N lps fr : List Str} {js : List Nat} {np n : Nat} {WF : PhiT → AF} {Φ0 : PhiT} {LB : AE} {params : Arguments} {body : Expr} {scope : Scope} {lpos : Pos} (C : CalF X.prog X.w X.K X.mg X.base T x k kc ps WF) (hr : Room j X.A) (hk : k ≤ j) (hkc : kl + 1 = kc) (tk : Takes X W)
    (h0 : ∀ y F, Φ0 y F → ∀ s H, CloOk X.prog X.w X.K X.mg X.base T kc (frs X.stack) s H y F)
    (LA : LamAt X T params scope lpos fr js) (LO : LamOk X.prog X.w X.K X.mg X.base T kl ⟨X.env.qual ++ "<lambda>", params, body, scope⟩ N lps fr np n LB)
    {pins : List (Addr × Obj)} {σ : L2.St} {s : Shared} {w : Wd} {env : Ev} {h : Hh} {us : List Value} {vs : List V} {xs ys : List PV} {Q : VK} (I : L2.Inv X pins σ w.H s) (R : Rel X.K T w h) (E : EnvR X.K w env σ) (rv : Vals vs us) (rx : RVs X.K w xs vs) (hy : capE env js = some ys)
    (q : ∀ f c cl us, (WF fun x F => (x = .clo ⟨X.env.qual ++ "<lambda>", params, body, scope⟩ f c cl ys us ∧ F = mkL np n ys LB) ∨ Φ0 x F).run (xs ++ [.clo ⟨X.env.qual ++ "<lambda>", params, body, scope⟩ f c cl ys us]) h (fun y h2 => ∀ w2 v, Rel X.K T w2 h2 → w.Le w2 → RV X.K w2 y v → Q v w2.H) (qx X.K T W w σ)) :
    wpAny (model X.prog X.w) X.A (eval (.Lambda params body scope lpos) X.env) (fun u s1 => X.K.In s1.heap ∧ wpAny (model X.prog X.w) X.A (call (.ref (He.ga X.K x)) (us ++ [u])) (EP X pins σ Q) X.xe s1) X.xe s := by
  obtain ⟨nm, c, P, TB, hcode, hm, hn, hu⟩ := LA.tb
  obtain ⟨fd, hF, hb⟩ := C.ex
  refine PyN.lam_make3 I TB hcode hm hn hu R.tabs LA.dfl (LA.has I.ok) fun f c' H1 s' I1 eN dn T1 hf h1 hc hc0 => ⟨I1.kIn, ?_⟩
  obtain ⟨vs0, e0, r0⟩ := cap_rv E hy
  obtain ⟨w1, e1, R1, L1, r1⟩ := lam_world R eN dn T1 hf h1 hc hc0 r0
  subst e1
  have C0 : NdefX.CellsAt (cloFrom X.env.cells scope.names []) fr (vs0.map some) s'.heap w1.H := by
    have := NdefX.cells_of I1 (NdefX.Caps.made I1.ok LA.free LA.hfr LA.hjs)
    rw [e0] at this
    exact this
  have hl : ys.length = fr.length := by
    have q1 := congrArg List.length LA.hjs
    have q2 := congrArg List.length e0
    rw [List.length_map, List.length_map] at q1 q2
    rw [r0.length]; omega
  have CO := clo_ok (fs := frs X.stack) LO (f := f) (c := c') (ys := ys) C0 hl
  rw [hkc] at CO
  have sp : spA X.K T (WF fun x F => (x = .clo ⟨X.env.qual ++ "<lambda>", params, body, scope⟩ f c' (cloFrom X.env.cells scope.names []) ys vs0 ∧ F = mkL np n ys LB) ∨ Φ0 x F) (vs ++ [.ref f]) w1.H Q (WE W σ) :=
    ⟨w1, h, _, rfl, R1, RVs.append (rx.to L1) (RVs.cons r1 RVs.nil), (WF _).mono (q f c' _ vs0) (fun y h2 q2 w2 v R2 L2 r2 => q2 w2 v R2 (L1.trans L2) r2) fun y h2 q2 w2 cls d R2 L2 r2 => q2 w2 cls d R2 (L1.trans L2) r2⟩
  have rv2 : Vals (vs ++ [.ref f]) (us ++ [Value.ref f]) := rv.append (.cons rfl .nil)
  have hlen : ((us ++ [Value.ref f]) ++ []).length = ps.length := by
    rw [List.append_nil, ← rv2.length, spA_len sp, hF.n]
  have hb' := hb s' (us ++ [Value.ref f]) I1.kIn hlen
  rw [List.append_nil] at hb'
  refine wpAny_call (codeAny_mono (hF.run X.A X.stack s' w1.H ⟨us ++ [Value.ref f], []⟩ _ _ Q (WE W σ) _ (hr.mono hk) I1.env0 hb' rv2 (fun y F hy => ?_) sp) fun r s2 hq => ?_)
  · rcases hy with ⟨e1, e2⟩ | hy
    · subst e1 e2
      exact CO
    · exact h0 y F hy _ _
  cases r with
  | error e => exact passAt tk σ pins w1.H s' e s2 I1 hq
  | ok fl =>
    cases fl with
    | ret u => exact I1.after hq
    | next => exact False.elim hq
    | brk => exact False.elim hq
    | cont => exact False.elim hq
/-- x(lambda ..: body) -/
theorem se_callL0 {k kc kl j : Nat} {x : Str} {ps N lps fr : List Str} {js : List Nat} {np n : Nat} {WF : PhiT → AF} {Φ0 : PhiT} {LB : AE} {params : Arguments} {body : Expr} {scope : Scope} {lpos : Pos} (C : CalF X.prog X.w X.K X.mg X.base T x k kc ps WF) (hr : Room j X.A) (hk : k ≤ j) (hkc : kl + 1 = kc) (tk : Takes X W)
    (h0 : ∀ y F, Φ0 y F → ∀ s H, CloOk X.prog X.w X.K X.mg X.base T kc (frs X.stack) s H y F)
    (LA : LamAt X T params scope lpos fr js) (LO : LamOk X.prog X.w X.K X.mg X.base T kl ⟨X.env.qual ++ "<lambda>", params, body, scope⟩ N lps fr np n LB) (hg : Gl X x := by rfl) (hdb : (x == ("__debug__" : Str)) = false := by decide) :
    SE X T W (.Call (.Name x p) [.Lambda params body scope lpos] [] pos) (aCallL WF Φ0 ⟨X.env.qual ++ "<lambda>", params, body, scope⟩ js (fun ys => mkL np n ys LB) aNil) := by
  refine ⟨fun pins s σ H Q I q => ?_⟩
  obtain ⟨w, env, h, e0, R, E, ys, hy, q⟩ := q
  subst e0
  refine wpAny_Call_Name_kw (ld_glob I hg C.mg ?_ hdb)
  refine PySem.W.callWith_K (h₀ := X.base) I.ok.mod.kin C.kp ?_ (by rfl) (by rfl)
  show wpAny _ _ (spliced ((false, eval (.Lambda params body scope lpos) X.env) :: backTo pos (starEach [] X.env))) _ _ s
  refine Calls.spliced_cons (wpAny_mono (lam_call C hr hk hkc tk h0 LA LO (us := []) (vs := []) (xs := []) I R E .nil RVs.nil hy q) (fun u s1 hq => ?_) fun _ _ z => z)
  exact Calls.spliced_nil hq
/-- x(a, lambda ..: body) -/
theorem se_callL1 {k kc kl j : Nat} {x : Str} {ps N lps fr : List Str} {js : List Nat} {np n : Nat} {WF : PhiT → AF} {Φ0 : PhiT} {LB A : AE} {params : Arguments} {body : Expr} {scope : Scope} {lpos : Pos} (C : CalF X.prog X.w X.K X.mg X.base T x k kc ps WF) (hr : Room j X.A) (hk : k ≤ j) (hkc : kl + 1 = kc) (tk : Takes X W)
    (h0 : ∀ y F, Φ0 y F → ∀ s H, CloOk X.prog X.w X.K X.mg X.base T kc (frs X.stack) s H y F)
    (LA : LamAt X T params scope lpos fr js) (LO : LamOk X.prog X.w X.K X.mg X.base T kl ⟨X.env.qual ++ "<lambda>", params, body, scope⟩ N lps fr np n LB) (ha : SE X T W a A) (hg : Gl X x := by rfl) (hdb : (x == ("__debug__" : Str)) = false := by decide)
    (he : starEach [a, .Lambda params body scope lpos] X.env = (false, eval a X.env) :: starEach [.Lambda params body scope lpos] X.env := by rfl) :
    SE X T W (.Call (.Name x p) [a, .Lambda params body scope lpos] [] pos) (aCallL WF Φ0 ⟨X.env.qual ++ "<lambda>", params, body, scope⟩ js (fun ys => mkL np n ys LB) (aCons A aNil)) := by
  refine ⟨fun pins s σ H Q I q => ?_⟩
  obtain ⟨w, env, h, e0, R, E, q⟩ := q
  subst e0
  refine wpAny_Call_Name_kw (ld_glob I hg C.mg ?_ hdb)
  refine PySem.W.callWith_K (h₀ := X.base) I.ok.mod.kin C.kp ?_ he (by rfl)
  rw [he]
  have qa : tE X.K T W A σ w.H (fun v H1 => ∃ w1 h1 x ys, w1.H = H1 ∧ w.Le w1 ∧ Rel X.K T w1 h1 ∧ RV X.K w1 x v ∧ capE env js = some ys ∧ ∀ f c cl us, (WF fun x F => (x = .clo ⟨X.env.qual ++ "<lambda>", params, body, scope⟩ f c cl ys us ∧ F = mkL np n ys LB) ∨ Φ0 x F).run ([x] ++ [.clo ⟨X.env.qual ++ "<lambda>", params, body, scope⟩ f c cl ys us]) h1 (fun y h2 => ∀ w2 v, Rel X.K T w2 h2 → w1.Le w2 → RV X.K w2 y v → Q v w2.H) (qx X.K T W w1 σ)) := by
    refine ⟨w, env, h, rfl, R, E, A.mono q (fun x h1 ⟨ys, hy, q1⟩ w1 v1 R1 L1 r1 => ⟨w1, h1, x, ys, rfl, L1, R1, r1, hy, fun f c cl us => (WF _).mono (q1 f c cl us) (fun y h2 q2 w2 v R2 L2 r2 => q2 w2 v R2 (L1.trans L2) r2) fun x h2 q2 => qx_le L1 q2⟩) fun _ _ q1 => q1⟩
  refine Calls.spliced_cons (thn (ha.run pins s σ w.H _ I qa) fun u s1 ⟨v, H1, I1, r1, w1, h1, y, ys, e1, L1, R1, ry, hy, q1⟩ => ?_)
  subst e1
  refine Calls.spliced_cons (wpAny_mono (lam_call C hr hk hkc tk h0 LA LO (us := [u]) (vs := [v]) (xs := [y]) I1 R1 (E.to L1) (.cons r1 .nil) (RVs.cons ry RVs.nil) hy q1) (fun u s1 hq => ?_) fun _ _ z => z)
  exact Calls.spliced_nil hq
/-- a lambda as a value, nothing captured -/
def aLam0 (d : LamD) : AE := ⟨fun _ h Q _ => ∀ f c, Q (.clo d f c [] [] []) h, fun q f _ f1 c => f _ _ (q f1 c)⟩
theorem se_lam0 {params : Arguments} {body : Expr} {scope : Scope} {lpos : Pos} (LA : LamAt X T params scope lpos [] []) (hnf : ∀ y ∈ scope.names, y.2 ≠ .free) : SE X T W (.Lambda params body scope lpos) (aLam0 ⟨X.env.qual ++ "<lambda>", params, body, scope⟩) := by
  refine ⟨fun pins s σ H Q I q => ?_⟩
  obtain ⟨w, env, h, e0, R, E, q⟩ := q
  subst e0
  obtain ⟨nm, c, P, TB, hcode, hm, hn, hu⟩ := LA.tb
  have ecl : cloFrom X.env.cells scope.names [] = [] := by
    cases q : cloFrom X.env.cells scope.names [] with
    | nil => rfl
    | cons a r =>
      have hm : a ∈ cloFrom X.env.cells scope.names [] := by rw [q]; exact List.mem_cons_self
      rcases cloFrom_mem hm with z | ⟨z, _⟩
      · cases z
      · exact absurd rfl (hnf _ z)
  refine PyN.lam_make3 I TB hcode hm hn hu R.tabs LA.dfl (LA.has I.ok) fun f c' H1 s' I1 eN dn T1 hf h1 hc hc0 => ?_
  obtain ⟨w1, e1, R1, L1, r1⟩ := lam_world R eN dn T1 hf h1 hc hc0 (RVs.nil (K := X.K) (w := w))
  subst e1
  rw [ecl] at r1
  exact ⟨.ref f, _, I1, rfl, q f c' w1 _ R1 L1 r1⟩
/-- .. may be called anywhere -/
theorem clo0_ok {P : Program} {w : World} {K : PySem.W.Frag} {mg : Str → Option Value} {base : Heap} {k : Nat} {d : LamD} {N ps : List Str} {np n : Nat} {B : AE} (L : LamOk P w K mg base T k d N ps [] np n B) {fs : List Addr} {s : Shared} {H : Hp} {f c : Addr} : CloOk P w K mg base T (k + 1) fs s H (.clo d f c [] [] []) (mkL np n [] B) :=
  clo_ok L (us := []) (cl := []) { len := rfl, all := fun y c e => (by cases e), inj := fun x y c e1 e2 => (by cases e1), has := fun i y e => (by cases e) } rfl
end
end PyA
end
section
set_option Elab.async false
set_option linter.all false
set_option maxRecDepth 100000
set_option maxHeartbeats 4000000
/-! PyQ: own ==, !=; an error's attribute; three names at once. -/
namespace PyN
open PySem PySem.Spec PyProof.Rows L2
/-- what a plain own class with an own __eq__ and no __ne__ must have -/
def neB (K : PySem.W.Frag) (C : Addr) : Bool := match K.lookup C with
  | some ⟨.type "type", _, .cls cd, sl⟩ => (match cd.mro, sl.toList with
    | [.ref C', .type B], [_, _, _, _, some (.builtin n), _] => C' == C && B == "object" && !cd.hasDel && PySem.W.nsOkIn K cd.ns && PySem.W.nsIn K cd.ns "__ne__" == some none && PySem.W.nsIn K cd.ns "__eq__" == some (some (.ref (He.ma K C "__eq__")))
    | _, _ => false)
  | _ => false
structure EqC (K : PySem.W.Frag) (C : Addr) : Prop where
  ne : neB K C = true
  eq : PySem.W.findIn K (.ref C) "__eq__" = some (some (.ref (He.ma K C "__eq__")))
  fn : PySem.W.isFn K (.ref (He.ma K C "__eq__")) = true
theorem ns_of {K : PySem.W.Frag} {h : Heap} {N : Addr} {mg : Str → Option Value} {n : Str} {v : Value} (X : K.In h) (G : h.Ns N mg) (e : PySem.W.nsIn K N n = some (some v)) : mg n = some v := by
  obtain ⟨o, es, ep, ho, hd, _, hf⟩ := G
  unfold PySem.W.nsIn at e
  split at e
  · rename_i c d es' n' sl q
    have := X _ _ q
    rw [ho] at this
    cases this
    cases hd
    split at e
    · rename_i en he
      cases e
      rw [← hf]
      unfold nsFind findBy
      rw [← Array.find?_toList, he]
      rfl
    · split at e <;> cases e
  · cases e
theorem ne_obj {K : PySem.W.Frag} {h : Heap} {C x : Addr} {o : Obj} (X : K.In h) (E : EqC K C) (hx : h.get? x = some o) (hc : o.cls = .ref C) : h.OwnEqNoNe x C (He.ma K C "__eq__") "object" [.type "object"] := by
  have q := E.ne
  unfold neB at q
  split at q
  · rename_i dd cd sl ho
    split at q
    · rename_i C' B k0 k1 k2 k3 n k5 hm hs
      simp only [Bool.and_eq_true, beq_iff_eq, Bool.not_eq_true'] at q
      obtain ⟨⟨⟨⟨⟨rfl, rfl⟩, hdel⟩, hok⟩, hne⟩, heq⟩ := q
      obtain ⟨nm, bs, mro, ns, qn, hd, sn, sub, ab, col, del⟩ := cd
      dsimp only at hm hdel hok hne heq
      subst hm hdel
      have hsl : sl = #[k0, k1, k2, k3, some (.builtin n), k5] := by
        obtain ⟨l⟩ := sl
        simp only at hs
        rw [hs]
      subst hsl
      obtain ⟨of, hof, hfc⟩ : ∃ of, h.get? (He.ma K C' "__eq__") = some of ∧ of.cls = .type "function" := by
        have hf := beq_iff_eq.mp E.fn
        obtain ⟨o2, hl, hc2⟩ := Option.map_eq_some_iff.mp (show (K.lookup (He.ma K C' "__eq__")).map (·.cls) = some (.type "function") from hf)
        exact ⟨o2, X _ _ hl, hc2⟩
      exact ⟨o, of, nm, qn, ns, bs, hd, sn, sub, ab, col, dd, k0, k1, k2, k3, k5, n, _, _, hx, hc, X _ _ ho, .of_isNs (PySem.W.isNs_of_in X hok), ns_of X (.of_isNs (PySem.W.isNs_of_in X hok)) heq, hof, hfc, F.cmp_object.mro, F.cmp_object.eq.lookup, PySem.W.nsMap_none_of_in X hok hne⟩
    · cases q
  · cases q
/-- e.f, e an error that is kept -/
def tXfA (K : PySem.W.Frag) (C : Addr) (f : Str) (te : TE) : TE := fun σ H Q => te σ H fun x H1 => ∃ (a dd : Addr) (fs : List (Str × V)) (v : V), x = .ref a ∧ H1 a = some (PyA.ExO a (.ref C) (some dd)) ∧ H1 dd = some (.xd fs) ∧ fs.lookup f = some v ∧ Q v H1
theorem pe_xfA {X : Cx} {C : Addr} {e : Expr} {te : TE} {pos : Pos} {n : Str} (T : XfC X.K C) (hno : PySem.W.findIn X.K (.ref C) n = some none) (he : PE X e te) (hb : attributeBase e n X.env (eval e X.env) = eval e X.env := by rfl) : PE X (.Attribute e n pos) (tXfA X.K C n te) := by
  refine ⟨fun pins s σ H Q I h => ?_⟩
  refine attr_of hb (thn (he.run pins s σ H _ I h) fun u s1 hh => ?_)
  obtain ⟨x, H1, I1, rx, a, dd, fs, v, ex, ha, ea, l, q⟩ := hh
  subst ex
  obtain rfl : u = Value.ref a := rx
  obtain ⟨⟨oe, vs, ho1, hz, hd⟩, _, _⟩ := I1.hok a _ ha
  have hx : ObjOk X.prog X.w H1 s1.heap dd (.xd fs) := I1.hok dd _ ea
  obtain ⟨mA, hns, hr⟩ := hx
  obtain ⟨od, ho, hl⟩ := lookIn_ns hns
  obtain ⟨u, hu, ru⟩ := RelO.some_of (v := v) (o := mA n) (by rw [← l]; exact hr n)
  have J : PySem.W.InstAt s1.heap a oe C (some od) := ⟨ho1, hz.1, by unfold PySem.W.notCls; rw [hd] <;> rfl, by rw [hz.2]; exact ho⟩
  exact HandSPX.exc_get I1.kIn J T.ga T.gg T.exC (PySem.W.findObj_own T.hdC hno rfl (by rw [hl, hu])) (handed_of ru) ⟨v, H1, I1.tok _, ru, q⟩
end PyN
namespace PyA
open PySem L2 PySem.Spec PyProof.Rows
section
variable {X : Cx} {T : NTabs} {W : WX} {e a b c : Expr} {pos p : Pos} {K : PySem.W.Frag} {w : Wd} {h : Hh}
/-! ### an error's attribute -/
def aXf (c f : Str) (A : AE) : AE := ⟨fun e h Q R => A.run e h (fun x h1 => ∃ fs xs v, x = .exn c fs xs ∧ (fs.zip xs).lookup f = some v ∧ Q v h1) R, fun q g k => A.mono q (fun _ _ ⟨fs, xs, v, a, b, q1⟩ => ⟨fs, xs, v, a, b, g _ _ q1⟩) k⟩
theorem se_xf {c f : Str} {A : AE} (hc : XfC X.K (He.ga X.K c)) (hn : PySem.W.findIn X.K (.ref (He.ga X.K c)) f = some none) (ha : SE X T W e A) (hb : attributeBase e f X.env (eval e X.env) = eval e X.env := by rfl) : SE X T W (.Attribute e f pos) (aXf c f A) :=
  peImp (PyN.pe_xfA hc hn ha hb) fun σ H Q ⟨w, env, h, e, R, E, q⟩ => ⟨w, env, h, e, R, E, A.mono q (fun x h1 ⟨fs, xs, v, ex, hf, q1⟩ w1 v1 R1 L1 r1 => by
    subst ex
    rw [RV] at r1
    obtain ⟨a, vs, e1, off, r2, hh⟩ := r1
    rcases hh with ⟨e2, e3, _⟩ | ⟨d, od, h1, h2, h3⟩
    · subst e2
      simp at hf
    · obtain ⟨u, k1, k2⟩ := lookup_zip r2 hf
      exact ⟨a, d, _, u, e1, h1, h2, k1, q1 w1 u R1 L1 k2⟩) fun _ _ q1 => q1⟩
/-! ### own == -/
def oEqOwn (c : Str) (F : AF) : AO2 := ⟨fun x y h Q => ∃ l fs xs l2 fs2 xs2, x = .loc l ∧ y = .loc l2 ∧ h[l]? = some (.ins c fs xs) ∧ h[l2]? = some (.ins c fs2 xs2) ∧ F.run [x, y] h (fun v h' => ∃ b, v = .bl b ∧ Q (.bl b) h') NX,
  fun ⟨l, fs, xs, l2, fs2, xs2, a, b, c, d, q⟩ f => ⟨l, fs, xs, l2, fs2, xs2, a, b, c, d, F.mono q (fun _ _ ⟨b, e, q1⟩ => ⟨b, e, f _ _ q1⟩) fun _ _ z => z⟩⟩
def oNeOwn (c : Str) (F : AF) : AO2 := ⟨fun x y h Q => ∃ l fs xs l2 fs2 xs2, x = .loc l ∧ y = .loc l2 ∧ h[l]? = some (.ins c fs xs) ∧ h[l2]? = some (.ins c fs2 xs2) ∧ F.run [x, y] h (fun v h' => ∃ b, v = .bl b ∧ Q (.bl (!b)) h') NX,
  fun ⟨l, fs, xs, l2, fs2, xs2, a, b, c, d, q⟩ f => ⟨l, fs, xs, l2, fs2, xs2, a, b, c, d, F.mono q (fun _ _ ⟨b, e, q1⟩ => ⟨b, e, f _ _ q1⟩) fun _ _ z => z⟩⟩
/-- the call of __eq__, from the tree of ==, at any place below the body -/
theorem eq_call {c : Str} {F : AF} {k : Nat} {fd : FuncData} {ps : List Str} {A : Around} (hF : FnA X.prog X.w X.K X.mg X.base T k (He.ma X.K (He.ga X.K c) "__eq__") fd ps F) (hb : Binds X.K fd ps []) (hr : Room k A) (hfr : A.frames = X.A.frames) {pins : List (Addr × Obj)} {σ : L2.St} {s : Shared} {x y : PV} {vx vy : V} {ux uy : Value} {Q : QV} {Qv : Value → Shared → Prop} {E' : Value → Shared → Prop}
    (I : L2.Inv X pins σ w.H s) (R : Rel X.K T w h) (rx : RV X.K w x vx) (ry : RV X.K w y vy) (sx : RelV vx ux) (sy : RelV vy uy) (q : F.run [x, y] h (fun v h' => ∃ b, v = .bl b ∧ Q (.bl b) h') NX)
    (fin : ∀ b w' h' s', Rel X.K T w' h' → w.Le w' → Q (.bl b) h' → L2.Inv X pins σ w'.H s' → Qv (.bool b) s') : wpAny (model X.prog X.w) A (call (.ref (He.ma X.K (He.ga X.K c) "__eq__")) [ux, uy]) Qv E' s := by
  have e0 : Env0 X.prog X.w X.K X.mg X.base A X.stack s w.H := by
    have e := I.env0
    exact ⟨by rw [hfr]; exact e.frames, e.mod, e.bs, e.bsz, e.funs, e.frf, e.hok, e.bare⟩
  have sp : spA X.K T F [vx, vy] w.H (fun v H' => ∃ b w' h', v = .bl b ∧ w'.H = H' ∧ Rel X.K T w' h' ∧ w.Le w' ∧ Q (.bl b) h') (fun _ _ _ => False) :=
    ⟨w, h, [x, y], rfl, R, RVs.cons rx (RVs.cons ry RVs.nil), F.mono q (fun v h' ⟨b, ev, q1⟩ w' v' R' L' r' => by
      subst ev
      rw [RV] at r'
      exact ⟨b, w', h', r', rfl, R', L', q1⟩) fun _ _ z => z.elim⟩
  have r2 : Vals [vx, vy] [ux, uy] := .cons sx (.cons sy .nil)
  have hl : ([ux, uy] ++ []).length = ps.length := by
    have := hF.len _ _ _ _ sp
    simpa using this
  have hb' := hb s [ux, uy] I.kIn hl
  rw [List.append_nil] at hb'
  refine wpAny_call (codeAny_mono (hF.run A X.stack s w.H ⟨[ux, uy], []⟩ [ux, uy] [vx, vy] _ (fun _ _ _ => False) hr e0 hb' r2 sp) fun r s' hq => ?_)
  cases r with
  | error e => obtain ⟨_, _, _, _, _, _, _, _, _, _, _, _, z⟩ := hq; exact z.elim
  | ok fl =>
    cases fl with
    | ret u =>
      obtain ⟨z, H', I', rz, b, w', h', ez, eH, R', L', q'⟩ := I.after hq
      subst ez
      subst eH
      cases rz
      exact fin b w' h' s' R' L' q' I'
    | next => exact False.elim hq
    | brk => exact False.elim hq
    | cont => exact False.elim hq
theorem op_eqOwn {c : Str} {F : AF} {k j : Nat} {fd : FuncData} {ps : List Str} (E : PyN.EqC X.K (He.ga X.K c)) (hF : FnA X.prog X.w X.K X.mg X.base T k (He.ma X.K (He.ga X.K c) "__eq__") fd ps F) (hb : Binds X.K fd ps []) (hr : Room j X.A) (hk : k ≤ j) (hu : X.A.units < cLine) : OpS X T (compareOp .Eq) (oEqOwn c F) := by
  intro pins s σ H v1 v2 u1 u2 Q I s1 s2 q
  obtain ⟨w, h, x, y, e0, R, r1, r2, l, fs, xs, l2, fs2, xs2, ex, ey, h1, h2, q⟩ := q
  subst e0 ex ey
  have r1' := r1
  have r2' := r2
  rw [RV] at r1 r2
  obtain ⟨dx, vs, g1, _⟩ := R.cell _ _ h1
  obtain ⟨dy, vs2, g2, _⟩ := R.cell _ _ h2
  rw [r1.2] at s1
  rw [r2.2] at s2
  cases (show u1 = Value.ref (w.m l) from s1)
  cases (show u2 = Value.ref (w.m l2) from s2)
  obtain ⟨mA, J, _⟩ := ins_get I.hok g1
  obtain ⟨mB, J', _⟩ := ins_get I.hok g2
  obtain ⟨od, J, _⟩ := J.look
  obtain ⟨od', J', _⟩ := J'.look
  obtain ⟨m, hFr⟩ := I.fr
  show wpAny (model X.prog X.w) X.A (richCompare .Eq _ _) (EP X pins σ Q) X.xe s
  refine PySem.W.cmp_K (op := .Eq) (tb := .ref (He.ga X.K c)) hu hFr I.ok.mod.kin J J'.type (by simp [PySem.W.notFirst]) E.eq E.fn ?_
  exact eq_call (c := c) (Q := fun v h' => ∀ w' zv, Rel X.K T w' h' → w.Le w' → RV X.K w' v zv → Q zv w'.H) hF hb (hr.mono hk) rfl I R r1' r2' (by rw [r1.2]; rfl) (by rw [r2.2]; rfl) q fun b w' h' s' R' L' q' I' => ⟨.bl b, w'.H, I', rfl, q' w' _ R' L' rv_bl⟩
theorem op_neOwn {c : Str} {F : AF} {k j : Nat} {fd : FuncData} {ps : List Str} (E : PyN.EqC X.K (He.ga X.K c)) (hF : FnA X.prog X.w X.K X.mg X.base T k (He.ma X.K (He.ga X.K c) "__eq__") fd ps F) (hb : Binds X.K fd ps []) (hr : Room j X.A) (hk : k + 1 ≤ j) (hu : X.A.units + 1 < cLine) : OpS X T (compareOp .NotEq) (oNeOwn c F) := by
  intro pins s σ H v1 v2 u1 u2 Q I s1 s2 q
  obtain ⟨w, h, x, y, e0, R, r1, r2, l, fs, xs, l2, fs2, xs2, ex, ey, h1, h2, q⟩ := q
  subst e0 ex ey
  have r1' := r1
  have r2' := r2
  rw [RV] at r1 r2
  obtain ⟨dx, vs, g1, _⟩ := R.cell _ _ h1
  obtain ⟨dy, vs2, g2, _⟩ := R.cell _ _ h2
  rw [r1.2] at s1
  rw [r2.2] at s2
  cases (show u1 = Value.ref (w.m l) from s1)
  cases (show u2 = Value.ref (w.m l2) from s2)
  obtain ⟨mA, J, _⟩ := ins_get I.hok g1
  obtain ⟨mB, J', _⟩ := ins_get I.hok g2
  obtain ⟨od, J, _⟩ := J.look
  obtain ⟨od', J', _⟩ := J'.look
  have OE := PyN.ne_obj I.kIn E J.at_ J.cls
  obtain ⟨hp, g, d, t, os⟩ := s
  refine compareOp_ne_ownEq PySem.F.cmp_object OE J'.at_ J'.cls hu ?_
  exact eq_call (c := c) (Q := fun v h' => ∃ b, v = .bl b ∧ ∀ w' zv, Rel X.K T w' h' → w.Le w' → RV X.K w' (.bl (!b)) zv → Q zv w'.H) hF hb (hr.mono hk).in1 rfl I R r1' r2' (by rw [r1.2]; rfl) (by rw [r2.2]; rfl) (F.mono q (fun v h' ⟨b, e, q1⟩ => ⟨b, e, b, rfl, q1⟩) fun _ _ z => z) fun b w' h' s' R' L' ⟨b', eb, q'⟩ I' => ⟨b, rfl, by
    cases eb
    exact ⟨.bl (!b), w'.H, I', rfl, q' w' _ R' L' rv_bl⟩⟩
/-! ### a, b, c = x, y, z -/
def sPar3 (i j l : Nat) (A : AA) : AS := ⟨fun D e h => A.run e h (fun vs h' => ∃ v u t, vs = [v, u, t] ∧ D.nx (((e.set i (some v)).set j (some u)).set l (some t)) h') (fun x h' => D.ex x e h'), fun q k => A.mono q (fun _ _ ⟨v, u, t, e1, q1⟩ => ⟨v, u, t, e1, k.nx _ _ q1⟩) fun _ _ q1 => k.ex _ _ _ q1⟩
theorem ss_par3 {i j l : Nat} {x y z : Str} {A : AA} {px py pz pt : Pos} {kt k2 pt2} (hc : X.calm = true) (hN : X.N.Nodup) (hij : i ≠ j) (hil : i ≠ l) (hjl : j ≠ l) (ha : SA X T W [a, b, c] A) (hi : X.N[i]? = some x := by rfl) (hj : X.N[j]? = some y := by rfl) (hl : X.N[l]? = some z := by rfl)
    (hx : X.env.scope.names.lookup x = some .local := by rfl) (hy : X.env.scope.names.lookup y = some .local := by rfl) (hz : X.env.scope.names.lookup z = some .local := by rfl)
    (hw : swappedStores [.Tuple [.Name x px, .Name y py, .Name z pz] kt pt] (.Tuple [a, b, c] k2 pt2) X.env = pure (some [x, y, z]) := by rfl)
    (hs : swapsWithSole [.Tuple [.Name x px, .Name y py, .Name z pz] kt pt] (.Tuple [a, b, c] k2 pt2) pos.line X.env = pure false := by rfl) :
    SS X T W (.Assign [.Tuple [.Name x px, .Name y py, .Name z pz] kt pt] (.Tuple [a, b, c] k2 pt2) pos) (sPar3 i j l A) :=
  psImp (ps_par3 hc hN hi hj hl hij hil hjl hx hy hz ha hw hs) fun D σ H ⟨w, env, h, e, R, E, q⟩ => ⟨w, env, h, e, R, E, A.mono q (fun xs h1 ⟨v, u, t, e1, q1⟩ w1 vs R1 L1 r1 => by
    subst e1
    obtain ⟨v', u', t', e2, rv, ru, rt⟩ := rvs3 r1
    exact ⟨v', u', t', e2, q1 w1 _ R1 L1 ((((E.to L1).set i rv).set j ru).set l rt)⟩) fun x h1 q1 => ex_qx E q1⟩
end
end PyA
end
section
set_option Elab.async false
set_option linter.all false
set_option maxRecDepth 100000
set_option maxHeartbeats 4000000
/-! PyH: the head: defs found by a path (getters, an __init__ with super). -/
namespace PyH
open PySem PySem.Spec PyProof.Rows L2 He
/-- a def that stands at a path; cls: the class that its cell __class__ holds -/
structure DefP where
  path : PySem.W.Frag → Addr
  name : Str
  qual : Str
  params : Arguments
  body : List Stmt
  scope : Scope
  cls : Option Str := none
/-- the getter of a property -/
def getAt (c f : Str) (K : PySem.W.Frag) : Addr := match PySem.W.recIn K (ma K (ga K c) f) "property" with
  | some (.ref g :: _) => g
  | _ => 0
abbrev FnV : Type := Option (Str × Str × Arguments × FuncBody × Scope × Addr × List Str × Addr)
def fnV (K : PySem.W.Frag) (a : Addr) : FnV := match K.lookup a with
  | some ⟨_, _, .func fd, _⟩ => some (fd.name, fd.qualname, fd.params, fd.body, fd.scope, fd.globals, fd.closure.map (·.1), fd.builtins)
  | _ => none
def DefP.val (d : DefP) : FnV := some (d.name, d.qual, d.params, .stmts d.body, d.scope, mainGlobals, (match d.cls with
  | none => []
  | some _ => ["__class__"]), builtinsNs)
def cellB (K : PySem.W.Frag) (cl : List (Str × Addr)) (C : Addr) : Bool := match cl with
  | [(_, cc)] => (match K.lookup cc with
    | some ⟨_, _, .cell (some (.ref D)), _⟩ => D == C && (PySem.W.clsIn K D).isSome
    | _ => false)
  | _ => false
def fileB (K : PySem.W.Frag) (cdv : Value) (file : Str) : Bool := match cdv with
  | .ref c => (match K.lookup c with
    | some ⟨_, _, .fields vs, _⟩ => (match (vs[2]? : Option Value) with
      | some (.str f _) => f == file
      | _ => false)
    | _ => false)
  | _ => false
def DefP.ok (file : Str) (K : PySem.W.Frag) (d : DefP) : Bool := PySem.W.keepIn K (.ref (d.path K)) && (match K.lookup (d.path K) with
  | some ⟨_, _, .func fd, _⟩ => PySem.W.codeIn K fd.code d.qual && (dflB K fd.defaults [] && (match d.cls with
    | none => true
    | some c => cellB K fd.closure (ga K c) && (fileB K fd.code file && (PySem.W.typeIn K (.ref (d.path K)) == some (.type "function")) )))
  | _ => false)
abbrev AlP : Type := Bool × List FnV
def obsP (file : Str) (ps : List DefP) (K : PySem.W.Frag) : AlP := (ps.all fun d => d.ok file K, ps.map fun d => fnV K (d.path K))
def valP (ps : List DefP) : AlP := (true, ps.map DefP.val)
def SaysP (file : Str) (ps : List DefP) (K : PySem.W.Frag) : Prop := obsP file ps K = valP ps
section
variable {file : Str} {ps : List DefP} {K : PySem.W.Frag}
theorem SaysP.at_ (c : SaysP file ps K) {d : DefP} (h : d ∈ ps) : d.ok file K = true ∧ fnV K (d.path K) = d.val := by
  have c1 : (ps.all fun d => d.ok file K) = true := congrArg (fun z : AlP => z.1) c
  have c2 : ps.map (fun d => fnV K (d.path K)) = ps.map DefP.val := congrArg (fun z : AlP => z.2) c
  refine ⟨List.all_eq_true.mp c1 d h, ?_⟩
  obtain ⟨i, hi, e⟩ := List.mem_iff_getElem.mp h
  have e2 : (ps.map fun d => fnV K (d.path K))[i]? = (ps.map DefP.val)[i]? := by rw [c2]
  rw [List.getElem?_map, List.getElem?_map, List.getElem?_eq_getElem hi, e] at e2
  exact Option.some.inj e2
theorem SaysP.funD (c : SaysP file ps K) {d : DefP} (h : d ∈ ps) (hc : d.cls = none) : ∃ fd, FunD K d.name d.qual d.params d.body d.scope [] [] (d.path K) fd := by
  obtain ⟨ok, e⟩ := c.at_ h
  obtain ⟨kp, c2⟩ := ba ok
  unfold fnV at e
  unfold DefP.val at e
  rw [hc] at e c2
  cases q : K.lookup (d.path K) with
  | none => rw [q] at c2; cases c2
  | some o =>
    obtain ⟨oc, od, dt, osl⟩ := o
    rw [q] at c2 e
    cases dt with
    | func fd =>
      obtain ⟨n1, n2, n3, n4, n5, n6, n7, n8, n9, n10, n11, n12, n13, n14, n15⟩ := fd
      have e2 : (some (n1, n2, n3, n4, n5, n6, n7.map (·.1), n15) : FnV) = some (d.name, d.qual, d.params, .stmts d.body, d.scope, mainGlobals, [], builtinsNs) := e
      simp only [Option.some.injEq, Prod.mk.injEq] at e2
      obtain ⟨h1, h2, h3, h4, h5, h6, h7, h8⟩ := e2
      have h7 : n7 = [] := List.map_eq_nil_iff.mp h7
      subst h1 h2 h3 h4 h5 h6 h7 h8
      obtain ⟨k1, k2⟩ := ba (show (PySem.W.codeIn K n13 d.qual && (dflB K n8 [] && true)) = true from c2)
      obtain ⟨k3, _⟩ := ba k2
      exact ⟨_, ⟨oc, od, n8, n9, n10, n11, n12, n13, n14, osl, rfl, q, k1, dflB_ok k3, kwdB_ok (show kwdB K n9 [] = true from rfl)⟩, kp⟩
    | _ => cases c2
theorem SaysP.xinit (c : SaysP file ps K) {P : Program} (hf : ((P.main.file : Str) == file) = true) {d : DefP} (h : d ∈ ps) {cl : Str} (hc : d.cls = some cl) : ∃ fd, PyN.XInit P K (ga K cl) d.name d.qual d.params d.body d.scope (d.path K) fd ∧ (∃ oc od osl, K.lookup (d.path K) = some ⟨oc, od, .func fd, osl⟩) ∧ PySem.W.typeIn K (.ref (d.path K)) = some (.type "function") ∧ fd.defaults = .none := by
  obtain ⟨ok, e⟩ := c.at_ h
  obtain ⟨kp, c2⟩ := ba ok
  unfold fnV at e
  unfold DefP.val at e
  rw [hc] at e c2
  cases q : K.lookup (d.path K) with
  | none => rw [q] at c2; cases c2
  | some o =>
    obtain ⟨oc, od, dt, osl⟩ := o
    rw [q] at c2 e
    cases dt with
    | func fd =>
      obtain ⟨n1, n2, n3, n4, n5, n6, n7, n8, n9, n10, n11, n12, n13, n14, n15⟩ := fd
      have e2 : (some (n1, n2, n3, n4, n5, n6, n7.map (·.1), n15) : FnV) = (some (d.name, d.qual, d.params, .stmts d.body, d.scope, mainGlobals, [("__class__" : Str)], builtinsNs) : FnV) := e
      simp only [Option.some.injEq, Prod.mk.injEq] at e2
      obtain ⟨h1, h2, h3, h4, h5, h6, h7, h8⟩ := e2
      subst h1 h2 h3 h4 h5 h6 h8
      obtain ⟨k1, k2⟩ := ba (show (PySem.W.codeIn K n13 d.qual && (dflB K n8 [] && (cellB K n7 (ga K cl) && (fileB K n13 file && (PySem.W.typeIn K (.ref (d.path K)) == some (.type "function")))))) = true from c2)
      obtain ⟨k3, k4⟩ := ba k2
      obtain ⟨k5, k6⟩ := ba k4
      obtain ⟨k8, k9⟩ := ba k6
      have hdf : n8 = .none := by
        cases n8 with
        | none => rfl
        | _ => cases k3
      cases n7 with
      | nil => exact absurd (congrArg List.length h7) (by simp)
      | cons p r =>
        cases r with
        | cons p2 r2 => exact absurd (congrArg List.length h7) (by simp)
        | nil =>
          obtain ⟨nm, cc⟩ := p
          have hnm : nm = "__class__" := by
            have := List.head_eq_of_cons_eq h7
            exact this
          subst hnm
          cases n13 with
          | ref cd =>
            have k5' : (match K.lookup cc with
              | some ⟨_, _, .cell (some (.ref D)), _⟩ => D == ga K cl && (PySem.W.clsIn K D).isSome
              | _ => false) = true := k5
            have k8' : (match K.lookup cd with
              | some ⟨_, _, .fields vs, _⟩ => (match (vs[2]? : Option Value) with
                | some (.str f _) => f == file
                | _ => false)
              | _ => false) = true := k8
            split at k5'
            · rename_i cl1 cld D csl hcc
              obtain ⟨z1, z2⟩ := ba k5'
              have z1 := eq_of_beq z1
              subst z1
              obtain ⟨cdD, hD⟩ := Option.isSome_iff_exists.mp z2
              split at k8'
              · rename_i ccl cdd vs ccs hcd
                split at k8'
                · rename_i f tf hv
                  have ef := eq_of_beq k8'
                  refine ⟨_, ⟨⟨oc, od, n8, n9, n10, n11, n12, n14, osl, cd, cc, ccl, cdd, vs, ccs, f, tf, cl1, cld, csl, cdD, rfl, q, k1, hcd, hv, by rw [ef]; exact hf, hcc, hD, .inr trivial⟩⟩, ⟨oc, od, osl, rfl⟩, eq_of_beq k9, hdf⟩
                · cases k8'
              · cases k8'
            · cases k5'
          | _ => cases k8
    | _ => cases c2
end
/-! ### the Hook -/
abbrev AlY : Type := AlX × AlP
section
variable (n : Nat) (fa : List Fa) (fn : List DefD) (ts : List Tab) (tf : List Defn) (ex : PySem.W.Frag → Bool) (file : Str) (ps : List DefP)
def obsY (g : Addr → Option Obj) : AlY := (obsX n fa fn ts tf ex g, obsP file ps (frT g (asD g n)))
def hookY : PySem.W.Hook where
  α := AlY
  obs := fun s => obsY n fa fn ts tf ex file ps s.heap.get?
  val := fun w => (valX fn ts w, valP ps)
  says := fun w h => ∃ K : PySem.W.Frag, K.In h ∧ SaysX fa fn ts tf ex w h K ∧ SaysP file ps K
  of := fun _ _ e => ⟨_, frT_in, saysX_of (congrArg (fun z : AlY => z.1) e), congrArg (fun z : AlY => z.2) e⟩
  keeps := fun _ _ _ ⟨K, hK, c, c2⟩ k => ⟨K, PySem.W.Frag.In.keeps hK k, ⟨c.t, c.more, c.hd, c.out, fun p hp => k _ _ (c.empty p hp)⟩, c2⟩
theorem obsY_eq {g : Addr → Option Obj} {s : Shared} (h : ∀ a, g a = s.heap.get? a) : obsY n fa fn ts tf ex file ps g = (hookY n fa fn ts tf ex file ps).obs s := by
  have e : g = s.heap.get? := funext h
  rw [e] <;> rfl
end
end PyH
end
section
set_option Elab.async false
set_option linter.all false
set_option maxRecDepth 100000
set_option maxHeartbeats 4000000
/-! PyI: what the printed texts lean on: facts by Bools, defs with their code objects. -/
namespace PyA
open PySem L2 PySem.Spec PyProof.Rows NdefX
theorem _root_.L2.Room.u1 {j : Nat} {A : Around} (r : Room j A) : A.units + 1 < cLine := by have := r.un; omega
theorem _root_.L2.Room.u65 {j : Nat} {A : Around} (r : Room j A) : A.units + 65 < cLine := by have := r.un; omega
/-! ### text by place -/
def clsBody : Stmt → List Stmt
  | .ClassDef (body := b) .. => b
  | _ => []
section
variable {X : Cx} {T : NTabs} {W : WX} {e a b c : Expr} {pos p : Pos} {K : PySem.W.Frag}
def sRetN : AS := ⟨fun D e h => D.rt .non h, fun q l => l.rt _ _ q⟩
theorem ss_retN : SS X T W (.Return none pos) sRetN := psImp ps_retN fun D σ H ⟨w, env, h, e, R, E, q⟩ => e ▸ q w .non R (Wd.Le.refl w) (by rw [RV])
/-- min of a list of alike data of little depth -/
def aMinD (A : AA) : AE := ⟨fun e h Q R => A.run e h (fun xs h1 => ∃ (x : PV) (ys : List PV) (n : Nat) (d : PyData) (ds : List PyData), xs = [x] ∧ isTupPV x = false ∧ itemsOf h1 x = some ys ∧ ys.mapM (dat h1 n) = some (d :: ds) ∧ PySem.W.AlikeAll (d :: ds) ∧ PyData.canLayAll0 (d :: ds) = true ∧ PyData.depthAll (d :: ds) ≤ 60 ∧
    ∀ (i : Nat) (y : PV), ys[i]? = some y → (d :: ds)[i]? = some (PySem.W.minD d ds) → Q y h1) R,
  fun q f g => A.mono q (fun _ _ ⟨x, ys, n, d, ds, a1, a2, a3, a4, a5, a6, a7, q1⟩ => ⟨x, ys, n, d, ds, a1, a2, a3, a4, a5, a6, a7, fun i y h1 h2 => f _ _ (q1 i y h1 h2)⟩) g⟩
theorem se_minD {j : Nat} {es : List Expr} {A : AA} (hc : X.calm = true) (hr : Room j X.A) (hm : X.mg "min" = none) (ha : SA X T W (e :: es) A) (hg : Gl X "min" := by rfl)
    (hs : starEach (e :: es) X.env = (false, eval e X.env) :: starEach es X.env := by rfl) (hpl : (backTo pos (starEach es X.env)).any (·.1) = false := by rfl) : SE X T W (.Call (.Name "min" p) (e :: es) [] pos) (aMinD A) :=
  peImp (se_blt (ca_minD (T := T) hc) hg hm rfl ha (by decide) (by decide) hs hpl) fun σ H Q ⟨w, env, h, e0, R, E, q⟩ => ⟨w, env, h, e0, R, E, A.mono q (fun xs h1 ⟨x, ys, n, d, ds, a1, a2, a3, a4, a5, a6, a7, q1⟩ => ⟨x, ys, n, d, ds, a1, a2, a3, a4, a5, a6, by have := hr.un; omega, q1⟩) fun _ _ q1 => q1⟩
end
section
variable {P : Program} {w : World} {K : PySem.W.Frag} {mg : Str → Option Value} {base : Heap} {T : NTabs} {x qual : Str} {params : Arguments} {body : List Stmt} {scope : Scope} {dvs : List V} {kws : List (Str × V)} {f : Addr} {fd : FuncData}
/-- a def that is given functions, with these of the module -/
theorem CalF.cal {k kc : Nat} {ps : List Str} {WF : PhiT → AF} (C : CalF P w K mg base T x k kc ps WF) {Φ : PhiT} (h0 : ∀ y F, Φ y F → ∀ fs s H, CloOk P w K mg base T kc fs s H y F) : Cal P w K mg base T x k ps (WF Φ) := by
  obtain ⟨fd, hF, hb⟩ := C.ex
  exact ⟨⟨fd, ⟨fun vs H Q E h => (spA_len h).trans (hF.n Φ), fun A outer s H args us vs Q E hr e0 hbd r sp => hF.run A outer s H args us vs Q E Φ hr e0 hbd r (fun y F hy => h0 y F hy _ s H) sp⟩, hb⟩, C.mg, C.kp⟩
/-- fn_sound, the code object known -/
theorem fn_soundC {N ps : List Str} {np n k : Nat} {B : AS} {p : He.Defn} (F : FunD K x qual params body scope dvs kws (He.fAd K p) fd) (S : FnScope N ps scope) (hn : N.length = n) (hp : ps.length = np) (hnp : np ≤ n)
    (hb : ∀ (cdv : Value) (A : Around) (outer : List Env) (s : Shared) (H : Hp) (E : XK) (W : WX), cdv = .ref (He.codeOf K p) → Room k (A.deeper (envOfC qual scope s.heap.objs.size (He.fAd K p) cdv)) → Takes (cxOf (L2.CX P w) P w K mg base N qual scope (He.fAd K p) cdv A outer s H E) W →
      SSs (cxOf (L2.CX P w) P w K mg base N qual scope (He.fAd K p) cdv A outer s H E) T W body B) : FnA P w K mg base T (k + 1) (He.fAd K p) fd ps (mkF np n B) := by
  obtain ⟨oc, od, dV, kV, doc, pm, an, cdv, ct, osl, rfl, lk, hcd, hD, hK⟩ := F.ex
  obtain ⟨c, e⟩ := He.codeIn_ref hcd
  have ec := He.codeOf_eq lk (show (PySem.W.fnOf x qual params body scope dV kV doc pm an cdv ct).code = .ref c from e)
  refine fn_of lk hcd S (fun vs H Q E h => (spA_len h).trans hp.symm) fun A outer s H vs Q E hr ⟨w1, h, xs, e1, R, r, hx, q⟩ => ?_
  refine ⟨_, hb cdv A outer s H E (fun cls d _ H => E cls d H) (by rw [e, ec]) hr (takes_of rfl rfl rfl rfl), w1, _, h, e1, R, EnvR.start r hn (hx ▸ hnp), B.mono q ?_⟩
  refine ⟨fun _ h' q w' σ' R' L' E' => q w' .non R' L' (by rw [RV]), fun x h' q w' v R' L' r' => q w' v R' L' r', fun _ _ q => q.elim, fun _ _ q => q.elim, fun x e' h' q w' σ' cls d R' L' E' r' => q w' cls d R' L' r'⟩
end
/-! ### facts by Bools -/
def propB (K : PySem.W.Frag) (c f : Str) : Bool := He.eqO (PySem.W.findIn K (.ref (He.ga K c)) f) (some (some (.ref (He.ma K (He.ga K c) f)))) && (He.eqO (PySem.W.specialIn K (.ref (He.ma K (He.ga K c) f)) "__get__") (some (some (.builtin "property.__get__"))) && (decide (PySem.W.takesIn K (.ref (He.ma K (He.ga K c) f)) = some true) &&
  (match PySem.W.recIn K (He.ma K (He.ga K c) f) "property" with
  | some (.ref _ :: _) => true
  | _ => false)))
theorem propB_ok {K : PySem.W.Frag} {c f : Str} (h : propB K c f = true) : PropOf K (He.ga K c) f (He.ma K (He.ga K c) f) (PyH.getAt c f K) := by
  obtain ⟨h1, h⟩ := He.ba h
  obtain ⟨h2, h⟩ := He.ba h
  obtain ⟨h3, h4⟩ := He.ba h
  refine ⟨He.eqO_ok h1, He.eqO_ok h2, of_decide_eq_true h3, ?_⟩
  unfold PyH.getAt
  split at h4
  · rename_i g r q
    rw [q]
    exact ⟨r, rfl⟩
  · cases h4
def eqB (K : PySem.W.Frag) (c : Str) : Bool := PyN.neB K (He.ga K c) && (He.eqO (PySem.W.findIn K (.ref (He.ga K c)) "__eq__") (some (some (.ref (He.ma K (He.ga K c) "__eq__")))) && PySem.W.isFn K (.ref (He.ma K (He.ga K c) "__eq__")))
theorem eqB_ok {K : PySem.W.Frag} {c : Str} (h : eqB K c = true) : PyN.EqC K (He.ga K c) := by
  obtain ⟨h1, h⟩ := He.ba h
  obtain ⟨h2, h3⟩ := He.ba h
  exact ⟨h1, He.eqO_ok h2, h3⟩
def clsB2 (K : PySem.W.Frag) (C : Addr) : Bool := He.eqO (PySem.W.findIn K (.ref C) "__class__") (some (some (.builtin "object.__class__"))) && (He.eqO (PySem.W.specialIn K (.builtin "object.__class__") "__get__") (some (some (.builtin "getset_descriptor.__get__"))) && (decide (PySem.W.takesIn K (.builtin "object.__class__") = some true) && decide (PySem.W.mroIn K C (.type "object") = some true)))
def insB (K : PySem.W.Frag) (c : Str) : Bool := (He.Fa.cls c).ok K && clsB2 K (He.ga K c)
theorem insB_ok {K : PySem.W.Frag} {c : Str} (h : insB K c = true) : InsT K (He.ga K c) := by
  obtain ⟨h0, h⟩ := He.ba h
  obtain ⟨h1, h⟩ := He.ba h
  obtain ⟨h2, h⟩ := He.ba h
  obtain ⟨h3, h4⟩ := He.ba h
  exact ⟨He.cls_ok h0, He.eqO_ok h1, He.eqO_ok h2, of_decide_eq_true h3, of_decide_eq_true h4⟩
def excB (K : PySem.W.Frag) (c : Str) : Bool := xfB K (He.ga K c) && clsB2 K (He.ga K c)
theorem excB_ok {K : PySem.W.Frag} {c : Str} (h : excB K c = true) : ExcC K (He.ga K c) := by
  obtain ⟨h0, h⟩ := He.ba h
  obtain ⟨h1, h⟩ := He.ba h
  obtain ⟨h2, h⟩ := He.ba h
  obtain ⟨h3, h4⟩ := He.ba h
  have q := xfB_ok h0
  exact ⟨q.ga, q.gg, q.exC, q.hdC, He.eqO_ok h1, He.eqO_ok h2, of_decide_eq_true h3, of_decide_eq_true h4⟩
def ktB (K : PySem.W.Frag) (kt : List (Tag × Tag × Bool)) (ci ce : List Str) : Bool := (kt.all fun q => decide (PySem.W.kitOne K (q.1.v K) (q.2.1.v K) = some q.2.2)) && ((ci.all fun c => insB K c) && ce.all fun c => excB K c)
theorem ktB_ok {K : PySem.W.Frag} {kt : List (Tag × Tag × Bool)} {ci ce : List Str} (h : ktB K kt ci ce = true) : KTab K kt ci ce := by
  obtain ⟨h1, h⟩ := He.ba h
  obtain ⟨h2, h3⟩ := He.ba h
  exact ⟨fun q hq => of_decide_eq_true (List.all_eq_true.mp h1 q hq), fun c hc => insB_ok (List.all_eq_true.mp h2 c hc), fun c hc => excB_ok (List.all_eq_true.mp h3 c hc)⟩
def etB (K : PySem.W.Frag) (c : Str) (et : List (Str × Bool)) : Bool := et.all fun q => decide (PySem.W.exmOne K (.ref (He.ga K q.1)) (.ref (He.ga K c)) = some q.2)
theorem etB_ok {K : PySem.W.Frag} {c : Str} {et : List (Str × Bool)} (h : etB K c et = true) : ∀ q ∈ et, PySem.W.exmOne K (.ref (He.ga K q.1)) (.ref (He.ga K c)) = some q.2 := fun q hq => of_decide_eq_true (List.all_eq_true.mp h q hq)
def noB (K : PySem.W.Frag) (c f : Str) : Bool := He.eqO (PySem.W.findIn K (.ref (He.ga K c)) f) (some none)
/-- an own exception class, its __init__ inherited or not -/
def oexB (K : PySem.W.Frag) (C : Addr) : Bool := (match K.lookup C with
  | some ⟨.type "type", _, .cls cd, sl⟩ => (match cd.mro, sl.toList with
    | .ref C' :: bm, [_, _, _, _, some (.builtin n), _] => C' == C && n == "ValueError.__new__" && !cd.hasDel && cd.hasDict && PySem.HandSPX.refsVE bm
    | _, _ => false)
  | _ => false) && (He.eqO (PySem.W.findIn K (.ref C) "__setattr__") (some (some (.builtin "object.__setattr__"))) && (decide (PySem.W.subIn K (.ref C) (.type "BaseException") = some true) && (decide (PySem.W.typeIn K (.ref C) = some (.type "type")) && PySem.W.keepIn K (.ref C))))
theorem oexB_ok {K : PySem.W.Frag} {C : Addr} (h : oexB K C = true) : OexC K C := by
  obtain ⟨q, h⟩ := He.ba h
  obtain ⟨h2, h⟩ := He.ba h
  obtain ⟨h3, h⟩ := He.ba h
  obtain ⟨h4, h5⟩ := He.ba h
  refine ⟨?_, He.eqO_ok h2, of_decide_eq_true h3, of_decide_eq_true h4, h5⟩
  split at q
  · rename_i dd cd sl ho
    split at q
    · rename_i C' bm k0 k1 k2 k3 n k5 hm hs
      simp only [Bool.and_eq_true, beq_iff_eq, Bool.not_eq_true'] at q
      obtain ⟨⟨⟨⟨rfl, rfl⟩, hdel⟩, hdc⟩, ht⟩ := q
      obtain ⟨nm, bs, mro, ns, qn, hd, sn, sub, ab, col, del⟩ := cd
      dsimp only at hm hdel hdc
      subst hm hdel hdc
      have hsl : sl = #[k0, k1, k2, k3, some (.builtin "ValueError.__new__"), k5] := by
        obtain ⟨l⟩ := sl
        simp only at hs
        rw [hs]
      subst hsl
      exact ⟨nm, qn, ns, bs, bm, sn, sub, ab, col, dd, k0, k1, k2, k3, k5, ho, ht⟩
    · cases q
  · cases q
/-- class c raised, its __init__ is D's, the attribute fl -/
def xiB (K : PySem.W.Frag) (c D fl : Str) : Bool := oexB K (He.ga K c) && (decide (PySem.W.mroIn K (He.ga K c) (.ref (He.ga K D)) = some true) && (He.eqO (PySem.W.ks_superIn K (He.ga K c) (He.ga K D) "__init__") (some (some (.builtin "ValueError.__init__"))) && (decide (PySem.W.subIn K (.ref (He.ga K c)) (.type "ValueError") = some true) &&
  (He.eqO (PySem.W.nsIn K cStatics "thirdparty.any") (some none) && (noB K c fl && (He.eqO (PySem.W.findIn K (.ref (He.ga K c)) "__init__") (some (some (.ref (He.ma K (He.ga K D) "__init__")))) && decide (PySem.W.typeIn K (.ref (He.ma K (He.ga K D) "__init__")) = some (.type "function"))))))))
theorem xiB_ok {K : PySem.W.Frag} {c D fl : Str} (h : xiB K c D fl = true) : PyN.XIok K (He.ga K c) (He.ga K D) fl ∧ PySem.W.findIn K (.ref (He.ga K c)) "__init__" = some (some (.ref (He.ma K (He.ga K D) "__init__"))) ∧ PySem.W.typeIn K (.ref (He.ma K (He.ga K D) "__init__")) = some (.type "function") := by
  obtain ⟨h1, h⟩ := He.ba h
  obtain ⟨h2, h⟩ := He.ba h
  obtain ⟨h3, h⟩ := He.ba h
  obtain ⟨h4, h⟩ := He.ba h
  obtain ⟨h5, h⟩ := He.ba h
  obtain ⟨h6, h⟩ := He.ba h
  obtain ⟨h7, h8⟩ := He.ba h
  exact ⟨⟨oexB_ok h1, of_decide_eq_true h2, He.eqO_ok h3, of_decide_eq_true h4, He.eqO_ok h5, He.eqO_ok h6⟩, He.eqO_ok h7, of_decide_eq_true h8⟩
/-! ### tables -/
def tabsOf (K : PySem.W.Frag) (tf : List (He.Defn × Str)) : NTabs := tf.map fun p => ((He.cT K p.1).2, fun _ _ => p.2)
def tabNB (K : PySem.W.Frag) (tf : List (He.Defn × Str)) : Bool := tf.all fun p => tf.all fun q => decide ((He.cT K p.1).2 = (He.cT K q.1).2 → p.2 = q.2)
theorem tabNB_ok {K : PySem.W.Frag} {tf : List (He.Defn × Str)} (h : tabNB K tf = true) {p : He.Defn × Str} (hp : p ∈ tf) : ((He.cT K p.1).2, fun _ _ => p.2) ∈ tabsOf K tf ∧ ∀ q ∈ tabsOf K tf, q.1 = (He.cT K p.1).2 → q.2 = fun _ _ => p.2 := by
  refine ⟨List.mem_map.mpr ⟨p, hp, rfl⟩, fun q hq e => ?_⟩
  obtain ⟨r, hr, er⟩ := List.mem_map.mp hq
  subst er
  have z := of_decide_eq_true (List.all_eq_true.mp (List.all_eq_true.mp h r hr) p hp)
  show (fun _ _ => r.2) = _
  rw [z e]
theorem tabs_start {K : PySem.W.Frag} {tf : List (He.Defn × Str)} {H : Hp} (h : ∀ p ∈ tf, H (He.cT K p.1).2 = some (.tbl #[])) : NdefX.TabsN (tabsOf K tf) H := fun q hq => by
  obtain ⟨r, hr, er⟩ := List.mem_map.mp hq
  subst er
  exact ⟨#[], h r hr, trivial, fun p cv e => by simp [codeAmong] at e⟩
/-! ### places in the text -/
def eNo : Expr := .Constant .none 0 ⟨0, 0, 0, 0⟩
def sNo : Stmt := .Pass ⟨0, 0, 0, 0⟩
def stE : Stmt → List Expr
  | .Expr e _ => [e]
  | .Assign ts v _ => ts ++ [v]
  | .Return (some e) _ => [e]
  | .If c _ _ _ => [c]
  | .While c _ _ _ => [c]
  | .For t i _ _ _ => [t, i]
  | .Raise (some e) _ _ => [e]
  | _ => []
def stS : Stmt → List Stmt
  | .If _ a b _ => a ++ b
  | .While _ a b _ => a ++ b
  | .For _ _ a b _ => a ++ b
  | .Try a _ _ _ _ => a
  | _ => []
def exE : Expr → List Expr
  | .Call f as _ _ => f :: as
  | .UnaryOp _ a _ => [a]
  | .BinOp a _ b _ => [a, b]
  | .Compare a _ bs _ => a :: bs
  | .BoolOp _ es _ => es
  | .List es _ => es
  | .Tuple es _ _ => es
  | .Subscript a b _ => [a, b]
  | .Attribute a _ _ => [a]
  | .IfExp a b c _ => [a, b, c]
  | .ListComp a [⟨t, i, ifs, _⟩] _ _ => a :: t :: i :: ifs
  | _ => []
def lamA : Expr → Arguments
  | .Lambda a _ _ _ => a
  | _ => { posonlyargs := [], args := [], vararg := none, kwonlyargs := [], kw_defaults := [], kwarg := none, defaults := [] }
def lamB : Expr → Expr
  | .Lambda _ b _ _ => b
  | e => e
def lamS : Expr → Scope
  | .Lambda _ _ s _ => s
  | _ => { kind := .function, names := [], isGenerator := false, isCoroutine := false, more := [] }
def lamQ (qual : Str) : Str := (envOfC qual (lamS eNo) 0 0 .none).qual ++ "<lambda>"
theorem lamQ_eq (qual : Str) (sc : Scope) (a f : Addr) (c : Value) : lamQ qual = (envOfC qual sc a f c).qual ++ "<lambda>" := rfl
def pNo : PhiT := fun _ _ => False
theorem pNo_ok {P : Program} {w : World} {K : PySem.W.Frag} {mg : Str → Option Value} {base : Heap} {T : NTabs} {k : Nat} {fs : List Addr} : ∀ y F, pNo y F → ∀ s H, CloOk P w K mg base T k fs s H y F := fun _ _ z => z.elim
def lamC (sc scope : Scope) (fr : List Str) : Bool := (scope.names.all fun y => match y.2 with
  | .free => (match sc.names.lookup y.1 with | some .cell => true | some .free => true | _ => false)
  | _ => true) && fr.all fun y => decide ((y, NameKind.free) ∈ scope.names)
theorem lamAt_by {X : Cx} {T : NTabs} {params : Arguments} {scope : Scope} {pos : Pos} {js : List Nat} {c P : Addr} {q : Str} (TB : LamX.TabB X.base X.mg c P) (hcode : X.env.code = .ref c) (hm : (P, fun _ _ => q) ∈ T) (hu : ∀ p ∈ T, p.1 = P → p.2 = fun _ _ => q) (hq : q = X.env.qual ++ "<lambda>") (hd : defaultsOf params X.env = ([], [])) {sc : Scope} (hsc : X.env.scope = sc) {fr : List Str} (hb : lamC sc scope fr = true)
    (hjs : js.map (fun j => X.N[j]?) = fr.map some) : LamAt X T params scope pos fr js := by
  obtain ⟨h1, h2⟩ := Bool.and_eq_true_iff.mp hb
  refine ⟨⟨fun _ _ => q, c, P, TB, hcode, hm, hq, hu⟩, hd, fun y hy e => ?_, fun y hy => of_decide_eq_true (List.all_eq_true.mp h2 y hy), hjs⟩
  have z := List.all_eq_true.mp h1 y hy
  rw [e] at z
  rw [hsc]
  dsimp only at z
  split at z
  · rename_i q; exact .inl q
  · rename_i q; exact .inr q
  · cases z
theorem lamNf {scope : Scope} (h : (scope.names.all fun y => !decide (y.2 = .free)) = true) : ∀ y ∈ scope.names, y.2 ≠ .free := fun y hy e => by
  have z := List.all_eq_true.mp h y hy
  rw [e] at z
  cases z
theorem _root_.L2.FunD.same {K : PySem.W.Frag} {x qual : Str} {params : Arguments} {body : List Stmt} {scope : Scope} {dvs dvs2 : List V} {kws kws2 : List (Str × V)} {x2 qual2 : Str} {params2 : Arguments} {body2 : List Stmt} {scope2 : Scope} {f : Addr} {fd fd2 : FuncData} (F : FunD K x qual params body scope dvs kws f fd) (F2 : FunD K x2 qual2 params2 body2 scope2 dvs2 kws2 f fd2) : fd = fd2 := by
  obtain ⟨oc, od, dV, kV, doc, pm, an, cdv, ct, osl, _, lk, _⟩ := F.ex
  obtain ⟨oc2, od2, dV2, kV2, doc2, pm2, an2, cdv2, ct2, osl2, _, lk2, _⟩ := F2.ex
  rw [lk] at lk2
  have q := congrArg Obj.data (Option.some.inj lk2)
  exact Data.func.inj q
theorem fnAtK {K : PySem.W.Frag} {x qual : Str} {params : Arguments} {body : List Stmt} {scope : Scope} {dvs : List V} {kws : List (Str × V)} {f : Addr} (h : ∃ fd, FunD K x qual params body scope dvs kws f fd) : ∃ o, K.lookup f = some o ∧ ∃ fd, o.data = .func fd := by
  obtain ⟨fd, F⟩ := h
  obtain ⟨oc, od, dV, kV, doc, pm, an, cdv, ct, osl, _, lk, _⟩ := F.ex
  exact ⟨_, lk, fd, rfl⟩
theorem kpOf {K : PySem.W.Frag} {x qual : Str} {params : Arguments} {body : List Stmt} {scope : Scope} {dvs : List V} {kws : List (Str × V)} {f : Addr} (h : ∃ fd, FunD K x qual params body scope dvs kws f fd) : PySem.W.keepIn K (.ref f) = true := by
  obtain ⟨fd, F⟩ := h
  exact F.kp
theorem Cal.mono {P : Program} {w : World} {K : PySem.W.Frag} {mg : Str → Option Value} {base : Heap} {T : NTabs} {x : Str} {k j : Nat} {ps : List Str} {A : AF} (C : Cal P w K mg base T x k ps A) (h : k ≤ j) : Cal P w K mg base T x j ps A := by
  obtain ⟨fd, F, b⟩ := C.ex
  exact ⟨⟨fd, ⟨F.len, fun A outer s H args us vs Q E hr => F.run A outer s H args us vs Q E (hr.mono h)⟩, b⟩, C.mg, C.kp⟩
theorem bindsKw {P : Program} {w : World} {K : PySem.W.Frag} {mg : Str → Option Value} {base : Heap} {T : NTabs} {x qual : Str} {params : Arguments} {body : List Stmt} {scope : Scope} {kws : List (Str × V)} {f : Addr} {fd : FuncData} {k : Nat} {ps ks : List Str} {π : List Nat} {A : AF} (hF : FnA P w K mg base T k f fd ps A) (F : FunD K x qual params body scope [] kws f fd)
    (h : ∀ (kV doc pm : Value) (an : Option Addr) (cdv ct : Value) (ws : List Value), ws.length = ks.length → bindArgs (PySem.W.fnOf x qual params body scope .none kV doc pm an cdv ct) ⟨[], ks.zip ws⟩ = pure (ps.zip (perm Value.none π ws))) :
    ∃ fd, FnA P w K mg base T k f fd ps A ∧ ∀ (s : Shared) (ws : List Value), ws.length = ks.length → BindsTo s fd ⟨[], ks.zip ws⟩ (ps.zip (perm Value.none π ws)) := by
  obtain ⟨oc, od, dV, kV, doc, pm, an, cdv, ct, osl, rfl, lk, hcd, hD, hK⟩ := F.ex
  rcases hD with ⟨_, rfl⟩ | ⟨e, _⟩
  · exact ⟨_, hF, fun s ws hl => .of_eq (h kV doc pm an cdv ct ws hl)⟩
  · exact absurd rfl e
theorem xinit_binds {P : Program} {K : PySem.W.Frag} {D : Addr} {name qual : Str} {params : Arguments} {body : List Stmt} {scope : Scope} {f : Addr} {fd : FuncData} {ps : List Str} (F : PyN.XInit P K D name qual params body scope f fd) (hd : fd.defaults = .none)
    (h : ∀ (cl : List (Str × Addr)) (kV doc pm : Value) (an : Option Addr) (cdv ct : Value) (us : List Value), us.length = ps.length → bindArgs (PySem.W.fnX name qual params body scope cl .none kV doc pm an cdv ct) ⟨us, []⟩ = pure (ps.zip us)) : Binds K fd ps [] := by
  obtain ⟨oc, od, dV, kV, doc, pm, an, ct, osl, c, cc, ccl, cdd, vs0, ccs, file, tf, cl, cld, csl, cdD, efd, _⟩ := F.ex
  subst efd
  have e : dV = .none := hd
  subst e
  exact .all (h _ kV doc pm an (.ref c) ct)
theorem SaysX_fact {fa : List He.Fa} {fn : List He.DefD} {ts : List He.Tab} {tf : List He.Defn} {ex : PySem.W.Frag → Bool} {w : World} {h : Heap} {K : PySem.W.Frag} (c : He.SaysX fa fn ts tf ex w h K) {f : He.Fa} (i : Nat) (hi : fa[i]? = some f) : f.ok K = true := c.t.d.fact i hi
theorem SaysX_def {fa : List He.Fa} {fn : List He.DefD} {ts : List He.Tab} {tf : List He.Defn} {ex : PySem.W.Frag → Bool} {w : World} {h : Heap} {K : PySem.W.Frag} (c : He.SaysX fa fn ts tf ex w h K) {d : He.DefD} (i : Nat) (hi : fn[i]? = some d) : ∃ fd, FunD K d.name d.qual d.params d.body d.scope (d.dvs K) (d.kws K) (He.fAd K d.at_) fd := c.t.d.def_ i hi
end PyA
end
section
set_option Elab.async false
set_option linter.all false
set_option maxRecDepth 100000
set_option maxHeartbeats 2000000
/-! PyK: the hook with a list of addresses of one's own. -/
namespace PyH
open PySem PySem.Spec PyProof.Rows L2 He
/-- what is looked at: the statics' dict too -/
def asZ (g : Addr → Option Obj) (n : Nat) : List Addr := cStatics :: asD g n
section
variable (n : Nat) (fa : List Fa) (fn : List DefD) (tf : List Defn) (ex : PySem.W.Frag → Bool) (file : Str) (ps : List DefP)
abbrev AlZ : Type := (AlT × Bool) × AlP
def obsZ (g : Addr → Option Obj) : AlZ := ((obsT fa fn [] (frT g (asZ g n)), ex (frT g (asZ g n)) && tabsB g tf (frT g (asZ g n))), obsP file ps (frT g (asZ g n)))
theorem saysZ {w : World} {h : Heap} {K : PySem.W.Frag} (hK : ∀ {a o}, h.get? a = some o → emptyTab o = true → K.lookup a = none) (e : (obsT fa fn [] K, ex K && tabsB h.get? tf K) = valX fn [] w) : SaysX fa fn [] tf ex w h K := by
  have e1 : obsT fa fn [] K = valT fn [] w := congrArg (fun z : AlX => z.1) e
  have e2 : (ex K && tabsB h.get? tf K) = true := congrArg (fun z : AlX => z.2) e
  obtain ⟨hx, ht⟩ := ba e2
  have each : ∀ p, p ∈ tf → PySem.W.codeHdIn K (cT K p).1 (cT K p).2 = true ∧ ∃ o, h.get? (cT K p).2 = some o ∧ emptyTab o = true := by
    intro p hp
    obtain ⟨a, b⟩ := ba (List.all_eq_true.mp ht p hp)
    refine ⟨a, ?_⟩
    split at b
    · rename_i o q
      exact ⟨o, q, b⟩
    · cases b
  refine { t := e1, more := hx, hd := fun p hp => (each p hp).1, out := fun p hp => ?_, empty := fun p hp => ?_ }
  · obtain ⟨_, o, q, z⟩ := each p hp
    exact hK q z
  · obtain ⟨_, o, q, z⟩ := each p hp
    rw [q]
    exact congrArg some (emptyTab_eq z)
def hookZ : PySem.W.Hook where
  α := AlZ
  obs := fun s => obsZ n fa fn tf ex file ps s.heap.get?
  val := fun w => (valX fn [] w, valP ps)
  says := fun w h => ∃ K : PySem.W.Frag, K.In h ∧ SaysX fa fn [] tf ex w h K ∧ SaysP file ps K
  of := fun _ _ e => ⟨_, frT_in, saysZ fa fn tf ex (fun h1 h2 => frT_none h1 h2) (congrArg (fun z : AlZ => z.1) e), congrArg (fun z : AlZ => z.2) e⟩
  keeps := fun _ _ _ ⟨K, hK, c, c2⟩ k => ⟨K, PySem.W.Frag.In.keeps hK k, ⟨c.t, c.more, c.hd, c.out, fun p hp => k _ _ (c.empty p hp)⟩, c2⟩
theorem obsZ_eq {g : Addr → Option Obj} {s : Shared} (h : ∀ a, g a = s.heap.get? a) : obsZ n fa fn tf ex file ps g = (hookZ n fa fn tf ex file ps).obs s := by
  have e : g = s.heap.get? := funext h
  rw [e] <;> rfl
end
end PyH
end
section
set_option linter.all false
/-! plain mathematics of watches: breadth first -/
namespace Mx
/-! ### watches -/
def goals (mv : List (List Nat)) (p : Nat) : List Nat := mv.getD p []
def nxt (mv : List (List Nat)) (p k : Nat) : Nat := (goals mv p).getD k 0
def led (mv : List (List Nat)) (p : Nat) (r : List Nat) : Nat := r.foldl (nxt mv) p
def says (mv : List (List Nat)) (wd : List Nat) (p : Nat) (r : List Nat) : Nat := wd.getD (led mv p r) 0
structure WF (k : Nat) (mv : List (List Nat)) (wd : List Nat) : Prop where
  pos : 0 < mv.length
  wl : wd.length = mv.length
  kl : ∀ p, p < mv.length → (goals mv p).length = k
  lt : ∀ p g, p < mv.length → g ∈ goals mv p → g < mv.length
theorem led_append (mv : List (List Nat)) (p : Nat) (r s : List Nat) : led mv p (r ++ s) = led mv (led mv p r) s := by
  unfold led; rw [List.foldl_append]
theorem led_snoc (mv : List (List Nat)) (p : Nat) (r : List Nat) (d : Nat) : led mv p (r ++ [d]) = nxt mv (led mv p r) d := by
  rw [led_append]; rfl
theorem WF.nxt_mem {k : Nat} {mv : List (List Nat)} {wd : List Nat} (w : WF k mv wd) {p d : Nat} (hp : p < mv.length) (hd : d < k) : nxt mv p d ∈ goals mv p := by
  unfold nxt
  have : d < (goals mv p).length := by rw [w.kl p hp]; exact hd
  rw [List.getD_eq_getElem?_getD, List.getElem?_eq_getElem this]
  exact List.getElem_mem this
theorem WF.nxt_lt {k : Nat} {mv : List (List Nat)} {wd : List Nat} (w : WF k mv wd) {p d : Nat} (hp : p < mv.length) (hd : d < k) : nxt mv p d < mv.length := w.lt p _ hp (w.nxt_mem hp hd)
theorem WF.led_lt {k : Nat} {mv : List (List Nat)} {wd : List Nat} (w : WF k mv wd) : ∀ {r : List Nat} {p : Nat}, p < mv.length → (∀ d ∈ r, d < k) → led mv p r < mv.length
  | [], p, hp, _ => hp
  | d :: r, p, hp, h => w.led_lt (r := r) (w.nxt_lt hp (h d (by simp))) fun e he => h e (by simp [he])
/-- numbers of the goals -/
theorem WF.goals_map {k : Nat} {mv : List (List Nat)} {wd : List Nat} (w : WF k mv wd) {p : Nat} (hp : p < mv.length) : goals mv p = (List.range k).map (nxt mv p) := by
  apply List.ext_getElem
  · simp [w.kl p hp]
  · intro i h1 h2
    simp only [List.getElem_map, List.getElem_range]
    unfold nxt
    rw [List.getD_eq_getElem?_getD, List.getElem?_eq_getElem h1]; rfl
theorem goals_of {mv : List (List Nat)} {p : Nat} (h : p < mv.length) : mv[p]? = some (goals mv p) := by
  unfold goals
  rw [List.getD_eq_getElem?_getD, List.getElem?_eq_getElem h]; rfl

/-! ### breadth first -/
def addNew (f gs : List Nat) : List Nat := gs.foldl (fun f g => if g ∈ f then f else f ++ [g]) f
def bfs (look : Nat → List Nat) (a : Nat) : Nat → List Nat
  | 0 => [a]
  | n + 1 => match (bfs look a n)[n]? with
    | some p => addNew (bfs look a n) (look p)
    | none => bfs look a n
theorem addNew_cons (f : List Nat) (g : Nat) (gs : List Nat) : addNew f (g :: gs) = addNew (if g ∈ f then f else f ++ [g]) gs := rfl
theorem addNew_snoc (f : List Nat) (g : Nat) (gs : List Nat) : addNew f (gs ++ [g]) = if g ∈ addNew f gs then addNew f gs else addNew f gs ++ [g] := by
  unfold addNew; rw [List.foldl_append]; rfl
theorem addNew_pre : ∀ (gs f : List Nat), ∃ t, addNew f gs = f ++ t
  | [], f => ⟨[], by simp [addNew]⟩
  | g :: gs, f => by
    rw [addNew_cons]
    split
    · exact addNew_pre gs f
    · obtain ⟨t, h⟩ := addNew_pre gs (f ++ [g])
      exact ⟨g :: t, by rw [h]; simp⟩
theorem mem_addNew : ∀ {gs f : List Nat} {x : Nat}, x ∈ addNew f gs ↔ x ∈ f ∨ x ∈ gs
  | [], f, x => by simp [addNew]
  | g :: gs, f, x => by
    rw [addNew_cons, mem_addNew]
    split
    · rename_i h
      constructor
      · rintro (h1 | h1)
        · exact .inl h1
        · exact .inr (by simp [h1])
      · rintro (h1 | h1)
        · exact .inl h1
        · rcases List.mem_cons.mp h1 with h2 | h2
          · exact .inl (h2 ▸ h)
          · exact .inr h2
    · simp [or_assoc]
theorem addNew_nodup : ∀ {gs f : List Nat}, f.Nodup → (addNew f gs).Nodup
  | [], f, h => h
  | g :: gs, f, h => by
    rw [addNew_cons]
    split
    · exact addNew_nodup h
    · rename_i hg
      apply addNew_nodup
      rw [List.nodup_append]
      exact ⟨h, by simp, fun a ha b hb e => hg (by simp at hb; subst hb; exact e ▸ ha)⟩
section
variable {look : Nat → List Nat} {a : Nat}
theorem bfs_succ_some {n p : Nat} (h : (bfs look a n)[n]? = some p) : bfs look a (n + 1) = addNew (bfs look a n) (look p) := by
  rw [bfs, h]
theorem bfs_succ_none {n : Nat} (h : (bfs look a n)[n]? = none) : bfs look a (n + 1) = bfs look a n := by
  rw [bfs, h]
theorem bfs_nodup : ∀ n, (bfs look a n).Nodup
  | 0 => by simp [bfs]
  | n + 1 => by
    cases h : (bfs look a n)[n]? with
    | none => rw [bfs_succ_none h]; exact bfs_nodup n
    | some p => rw [bfs_succ_some h]; exact addNew_nodup (bfs_nodup n)
theorem bfs_pre1 (n : Nat) : ∃ t, bfs look a (n + 1) = bfs look a n ++ t := by
  cases h : (bfs look a n)[n]? with
  | none => rw [bfs_succ_none h]; exact ⟨[], by simp⟩
  | some p => rw [bfs_succ_some h]; exact addNew_pre _ _
theorem bfs_pre (n : Nat) : ∀ i, ∃ t, bfs look a (n + i) = bfs look a n ++ t
  | 0 => ⟨[], by simp⟩
  | i + 1 => by
    obtain ⟨t, h⟩ := bfs_pre n i
    obtain ⟨u, h2⟩ := bfs_pre1 (look := look) (a := a) (n + i)
    exact ⟨t ++ u, by rw [← Nat.add_assoc, h2, h]; simp⟩
theorem bfs_head (n : Nat) : (bfs look a n)[0]? = some a := by
  obtain ⟨t, h⟩ := bfs_pre (look := look) (a := a) 0 n
  rw [Nat.zero_add] at h
  rw [h]; rfl
theorem bfs_mem (n : Nat) : a ∈ bfs look a n := List.mem_of_getElem? (bfs_head n)
theorem bfs_at {n i j p : Nat} (h : (bfs look a n)[j]? = some p) : (bfs look a (n + i))[j]? = some p := by
  obtain ⟨t, e⟩ := bfs_pre (look := look) (a := a) n i
  rw [e, List.getElem?_append_left (List.getElem?_eq_some_iff.mp h).1]
  exact h
theorem bfs_ind {P : Nat → Prop} (h0 : P a) (hs : ∀ p g, P p → g ∈ look p → P g) : ∀ n, ∀ x ∈ bfs look a n, P x
  | 0, x, hx => by simp [bfs] at hx; exact hx ▸ h0
  | n + 1, x, hx => by
    cases h : (bfs look a n)[n]? with
    | none => rw [bfs_succ_none h] at hx; exact bfs_ind h0 hs n x hx
    | some p =>
      rw [bfs_succ_some h, mem_addNew] at hx
      rcases hx with hx | hx
      · exact bfs_ind h0 hs n x hx
      · exact hs p x (bfs_ind h0 hs n p (List.mem_of_getElem? h)) hx
/-- what stands ahead has been walked -/
theorem bfs_closed : ∀ {n j p : Nat}, j < n → (bfs look a n)[j]? = some p → ∀ g ∈ look p, g ∈ bfs look a n
  | 0, _, _, h, _, _, _ => absurd h (Nat.not_lt_zero _)
  | n + 1, j, p, hj, hp, g, hg => by
    obtain ⟨t, e⟩ := bfs_pre1 (look := look) (a := a) n
    by_cases h : j < n
    · have hjl : j < (bfs look a n).length := by
        by_cases hl : j < (bfs look a n).length
        · exact hl
        · have h1 : (bfs look a n)[n]? = none := by rw [List.getElem?_eq_none_iff]; omega
          rw [bfs_succ_none h1, List.getElem?_eq_none_iff.mpr (by omega)] at hp
          cases hp
      rw [e, List.getElem?_append_left hjl] at hp
      rw [e]
      exact List.mem_append_left _ (bfs_closed h hp g hg)
    · have ej : j = n := by omega
      subst ej
      cases h1 : (bfs look a j)[j]? with
      | none =>
        rw [bfs_succ_none h1, h1] at hp
        cases hp
      | some q =>
        have := bfs_at (i := 1) h1
        rw [this] at hp
        cases hp
        rw [bfs_succ_some h1, mem_addNew]
        exact .inr hg
theorem bfs_stable {n : Nat} (h : (bfs look a n).length ≤ n) : ∀ i, bfs look a (n + i) = bfs look a n
  | 0 => rfl
  | i + 1 => by
    rw [← Nat.add_assoc, bfs_succ_none (n := n + i), bfs_stable h i]
    rw [bfs_stable h i, List.getElem?_eq_none_iff]
    omega
end
/-- a list of numbers below m with none twice -/
theorem nodup_len : ∀ {m : Nat} {l : List Nat}, l.Nodup → (∀ x ∈ l, x < m) → l.length ≤ m
  | 0, l, _, h => by
    cases l with
    | nil => simp
    | cons x l => exact absurd (h x (by simp)) (Nat.not_lt_zero _)
  | m + 1, l, nd, h => by
    have h1 : (l.erase m).length ≤ m := nodup_len (nd.erase m) fun x hx => by
      have h2 := List.mem_of_mem_erase hx
      have h3 : x ≠ m := fun e => by
        subst e
        exact (List.Nodup.not_mem_erase nd) hx
      have := h x h2
      omega
    have h2 := List.length_erase (a := m) (l := l)
    split at h2 <;> omega
theorem bfs_len {look : Nat → List Nat} {a m : Nat} (ha : a < m) (hl : ∀ p g, p < m → g ∈ look p → g < m) (n : Nat) : (bfs look a n).length ≤ m :=
  nodup_len (bfs_nodup n) (bfs_ind (P := fun x => x < m) ha hl n)
theorem bfs_end {look : Nat → List Nat} {a m : Nat} (ha : a < m) (hl : ∀ p g, p < m → g ∈ look p → g < m) {n : Nat} (hn : (bfs look a n).length ≤ n) : bfs look a n = bfs look a m := by
  have h1 := bfs_stable hn m
  have h2 := bfs_stable (bfs_len ha hl m) n
  rw [← h1, ← h2, Nat.add_comm]
theorem bfs_all {look : Nat → List Nat} {a m : Nat} (ha : a < m) (hl : ∀ p g, p < m → g ∈ look p → g < m) {p g : Nat} (hp : p ∈ bfs look a m) (hg : g ∈ look p) : g ∈ bfs look a m := by
  obtain ⟨j, hj⟩ := List.getElem?_of_mem hp
  exact bfs_closed (Nat.lt_of_lt_of_le (List.getElem?_eq_some_iff.mp hj).1 (bfs_len ha hl m)) hj g hg
/-- a renaming goes along -/
theorem addNew_map {φ : Nat → Nat} : ∀ {gs f : List Nat}, (∀ x ∈ f ++ gs, ∀ y ∈ f ++ gs, φ x = φ y → x = y) → addNew (f.map φ) (gs.map φ) = (addNew f gs).map φ
  | [], f, _ => rfl
  | g :: gs, f, inj => by
    rw [List.map_cons, addNew_cons, addNew_cons]
    have e : φ g ∈ f.map φ ↔ g ∈ f := by
      constructor
      · intro h
        obtain ⟨y, hy, e⟩ := List.mem_map.mp h
        exact inj y (by simp [hy]) g (by simp) e ▸ hy
      · exact fun h => List.mem_map_of_mem h
    by_cases h : g ∈ f
    · rw [if_pos h, if_pos (e.mpr h)]
      exact addNew_map fun x hx y hy => inj x (by simp at hx ⊢; rcases hx with hx | hx <;> simp [hx]) y (by simp at hy ⊢; rcases hy with hy | hy <;> simp [hy])
    · rw [if_neg h, if_neg (fun z => h (e.mp z)), ← addNew_map (f := f ++ [g])]
      · rw [List.map_append]; rfl
      · exact fun x hx y hy => inj x (by simpa [or_assoc] using hx) y (by simpa [or_assoc] using hy)
theorem bfs_map {φ : Nat → Nat} {look look2 : Nat → List Nat} {a : Nat} {S : Nat → Prop} (ha : S a) (hc : ∀ p g, S p → g ∈ look p → S g) (inj : ∀ x y, S x → S y → φ x = φ y → x = y) (hl : ∀ p, S p → look2 (φ p) = (look p).map φ) :
    ∀ n, bfs look2 (φ a) n = (bfs look a n).map φ
  | 0 => rfl
  | n + 1 => by
    have ih := bfs_map ha hc inj hl n
    cases h : (bfs look a n)[n]? with
    | none =>
      rw [bfs_succ_none h, bfs_succ_none, ih]
      rw [ih, List.getElem?_map, h]; rfl
    | some p =>
      have hp : S p := bfs_ind ha hc n p (List.mem_of_getElem? h)
      rw [bfs_succ_some h, bfs_succ_some (p := φ p), ih, hl p hp, addNew_map]
      · have all : ∀ x ∈ bfs look a n ++ look p, S x := fun x hx => by
          rcases List.mem_append.mp hx with hx | hx
          · exact bfs_ind ha hc n x hx
          · exact hc p x hp hx
        exact fun x hx y hy => inj x y (all x hx) (all y hy)
      · rw [ih, List.getElem?_map, h]; rfl

/-! ### the first rows -/
/-- rows in their order: by length, then by kinds -/
def code (B : Nat) (r : List Nat) : Nat := r.foldl (fun a k => a * B + (k + 1)) 0
theorem code_snoc (B : Nat) (r : List Nat) (d : Nat) : code B (r ++ [d]) = code B r * B + (d + 1) := by
  unfold code; rw [List.foldl_append]; rfl
theorem code_lt {B : Nat} {r s : List Nat} {d e : Nat} (h : code B r < code B s) (hd : d < B) : code B (r ++ [d]) < code B (s ++ [e]) := by
  rw [code_snoc, code_snoc]
  have : (code B r + 1) * B ≤ code B s * B := Nat.mul_le_mul_right B h
  rw [Nat.add_mul] at this
  omega
theorem code_le {B : Nat} {r s : List Nat} {d : Nat} (h : code B r ≤ code B s) : code B (r ++ [d]) ≤ code B (s ++ [d]) := by
  rw [code_snoc, code_snoc]
  have := Nat.mul_le_mul_right B h
  omega
theorem code_lt2 {B : Nat} {r : List Nat} {d e : Nat} (h : d < e) : code B (r ++ [d]) < code B (r ++ [e]) := by
  rw [code_snoc, code_snoc]; omega
theorem code_pos (B : Nat) (r : List Nat) (d : Nat) : 0 < code B (r ++ [d]) := by rw [code_snoc]; omega
theorem snoc_ind {P : List Nat → Prop} (h0 : P []) (hs : ∀ r d, P r → P (r ++ [d])) (r : List Nat) : P r := by
  have : ∀ n, ∀ r : List Nat, r.length = n → P r := by
    intro n
    induction n with
    | zero => intro r h; rw [List.length_eq_zero_iff.mp h]; exact h0
    | succ n ih =>
      intro r h
      have hr : r ≠ [] := fun e => by rw [e] at h; simp at h
      rw [← List.dropLast_concat_getLast hr]
      exact hs _ _ (ih _ (by simp [h]))
  exact this _ r rfl
theorem code_inj {B : Nat} {r s : List Nat} : (∀ d ∈ r, d < B) → (∀ d ∈ s, d < B) → code B r = code B s → r = s := by
  revert s
  show ∀ s : List Nat, (∀ d ∈ r, d < B) → (∀ d ∈ s, d < B) → code B r = code B s → r = s
  refine snoc_ind (P := fun r => ∀ s, (∀ d ∈ r, d < B) → (∀ d ∈ s, d < B) → code B r = code B s → r = s) ?_ ?_ r
  · intro s _ _ e
    refine snoc_ind (P := fun s => code B [] = code B s → [] = s) (fun _ => rfl) (fun s d _ e => ?_) s e
    have := code_pos B s d
    rw [← e] at this
    exact absurd this (by simp [code])
  · intro r d ih s
    refine snoc_ind (P := fun s => (∀ x ∈ r ++ [d], x < B) → (∀ x ∈ s, x < B) → code B (r ++ [d]) = code B s → r ++ [d] = s) ?_ ?_ s
    · intro _ _ e
      have := code_pos B r d
      rw [e] at this
      exact absurd this (by simp [code])
    · intro s e' _ hr hs e
      have h1 : d < B := hr d (by simp)
      have h2 : e' < B := hs e' (by simp)
      have e3 : code B r = code B s := by
        rcases Nat.lt_trichotomy (code B r) (code B s) with h | h | h
        · have := code_lt (e := e') h h1; omega
        · exact h
        · have := code_lt (e := d) h h2; omega
      have e4 := ih s (fun x hx => hr x (by simp [hx])) (fun x hx => hs x (by simp [hx])) e3
      rw [code_snoc, code_snoc, e3] at e
      have : d = e' := by omega
      rw [e4, this]
abbrev RP := List Nat × Nat
def addR (q : List RP) (r : List Nat) : Nat → List Nat → List RP
  | _, [] => q
  | k, g :: gs => addR (if g ∈ q.map (·.2) then q else q ++ [(r ++ [k], g)]) r (k + 1) gs
def qN (look : Nat → List Nat) : Nat → List RP
  | 0 => [([], 0)]
  | n + 1 => match (qN look n)[n]? with
    | some x => addR (qN look n) x.1 0 (look x.2)
    | none => qN look n
theorem addR_places (r : List Nat) : ∀ (gs : List Nat) (q : List RP) (k : Nat), (addR q r k gs).map (·.2) = addNew (q.map (·.2)) gs
  | [], q, k => rfl
  | g :: gs, q, k => by
    rw [addR, addNew_cons, addR_places r gs]
    split <;> simp
theorem qN_places (look : Nat → List Nat) : ∀ n, (qN look n).map (·.2) = bfs look 0 n
  | 0 => rfl
  | n + 1 => by
    have ih := qN_places look n
    have e : (bfs look 0 n)[n]? = ((qN look n)[n]?).map (·.2) := by rw [← ih, List.getElem?_map]
    cases h : (qN look n)[n]? with
    | none =>
      rw [h] at e
      rw [qN, h, bfs_succ_none e]
      exact ih
    | some x =>
      rw [h] at e
      rw [qN, h, bfs_succ_some e, ← ih]
      exact addR_places _ _ _ _
theorem addR_pre (r : List Nat) : ∀ (gs : List Nat) (q : List RP) (k : Nat), ∃ t, addR q r k gs = q ++ t
  | [], q, k => ⟨[], by simp [addR]⟩
  | g :: gs, q, k => by
    rw [addR]
    split
    · exact addR_pre r gs q (k + 1)
    · obtain ⟨t, h⟩ := addR_pre r gs (q ++ [(r ++ [k], g)]) (k + 1)
      exact ⟨(r ++ [k], g) :: t, by rw [h]; simp⟩
theorem qN_pre1 (look : Nat → List Nat) (n : Nat) : ∃ t, qN look (n + 1) = qN look n ++ t := by
  cases h : (qN look n)[n]? with
  | none => rw [qN, h]; exact ⟨[], by simp⟩
  | some x => rw [qN, h]; exact addR_pre _ _ _ _
theorem qN_pre (look : Nat → List Nat) (n : Nat) : ∀ i, ∃ t, qN look (n + i) = qN look n ++ t
  | 0 => ⟨[], by simp⟩
  | i + 1 => by
    obtain ⟨t, h⟩ := qN_pre look n i
    obtain ⟨u, h2⟩ := qN_pre1 look (n + i)
    exact ⟨t ++ u, by rw [← Nat.add_assoc, h2, h]; simp⟩
theorem qN_stable {look : Nat → List Nat} {n : Nat} (h : (qN look n).length ≤ n) : ∀ i, qN look (n + i) = qN look n
  | 0 => rfl
  | i + 1 => by
    have e : (qN look (n + i))[n + i]? = none := by
      rw [qN_stable h i, List.getElem?_eq_none_iff]; omega
    rw [← Nat.add_assoc, qN, e]
    exact qN_stable h i
/-- what holds behind n walked ones, of the next one the goals ahead of kk walked -/
structure QI (B : Nat) (mv : List (List Nat)) (n kk : Nat) (q : List RP) : Prop where
  srt : q.Pairwise fun a b => code B a.1 < code B b.1
  led : ∀ x ∈ q, led mv 0 x.1 = x.2
  dig : ∀ x ∈ q, ∀ d ∈ x.1, d < B
  par : ∀ x ∈ q, x.1 = [] ∨ ∃ (j : Nat) (y : RP) (d : Nat), (j < n ∨ j = n ∧ d < kk) ∧ q[j]? = some y ∧ d < B ∧ x.1 = y.1 ++ [d]
  clo : ∀ (j : Nat) (y : RP), q[j]? = some y → ∀ d < B, (j < n ∨ j = n ∧ d < kk) → ∃ x ∈ q, x.2 = nxt mv y.2 d ∧ code B x.1 ≤ code B (y.1 ++ [d])
theorem QI.step {B : Nat} {mv : List (List Nat)} {n kk : Nat} {q : List RP} (h : QI B mv n kk q) {y : RP} (hy : q[n]? = some y) (hk : kk < B) {g : Nat} (hg : g = nxt mv y.2 kk) : QI B mv n (kk + 1) (if g ∈ q.map (·.2) then q else q ++ [(y.1 ++ [kk], g)]) := by
  have hym := List.mem_of_getElem? hy
  -- all that stands there is less than the new row
  have less : ∀ x ∈ q, code B x.1 < code B (y.1 ++ [kk]) := by
    intro x hx
    rcases h.par x hx with e | ⟨j, z, d, hj, hz, hd, e⟩
    · rw [e]
      have := code_pos B y.1 kk
      simpa [code] using this
    · rw [e]
      rcases hj with hj | ⟨hj, hdk⟩
      · refine code_lt ?_ hd
        have h1 := List.pairwise_iff_getElem.mp h.srt
        obtain ⟨l1, e1⟩ := List.getElem?_eq_some_iff.mp hz
        obtain ⟨l2, e2⟩ := List.getElem?_eq_some_iff.mp hy
        have := h1 j n l1 l2 hj
        rw [e1, e2] at this
        exact this
      · subst hj
        rw [hy] at hz
        cases hz
        exact code_lt2 hdk
  have old : ∀ {P : Prop}, (q.Pairwise (fun a b => code B a.1 < code B b.1) → P) → P := fun f => f h.srt
  by_cases hm : g ∈ q.map (·.2)
  · rw [if_pos hm]
    refine ⟨h.srt, h.led, h.dig, fun x hx => ?_, fun j z hz d hd hj => ?_⟩
    · rcases h.par x hx with e | ⟨j, z, d, hj, r⟩
      · exact .inl e
      · exact .inr ⟨j, z, d, by omega, r⟩
    · by_cases hjj : j < n ∨ j = n ∧ d < kk
      · exact h.clo j z hz d hd hjj
      · have e1 : j = n := by omega
        have e2 : d = kk := by omega
        subst e1 e2
        rw [hy] at hz
        cases hz
        obtain ⟨x, hx, e⟩ := List.mem_map.mp hm
        exact ⟨x, hx, by rw [e, hg], Nat.le_of_lt (less x hx)⟩
  · rw [if_neg hm]
    have ln : n < q.length := (List.getElem?_eq_some_iff.mp hy).1
    refine ⟨?_, ?_, ?_, ?_, ?_⟩
    · rw [List.pairwise_append]
      exact ⟨h.srt, by simp, fun a ha b hb => by simp at hb; subst hb; exact less a ha⟩
    · intro x hx
      rcases List.mem_append.mp hx with hx | hx
      · exact h.led x hx
      · simp at hx; subst hx
        show Mx.led mv 0 (y.1 ++ [kk]) = g
        rw [led_snoc, h.led y hym, hg]
    · intro x hx
      rcases List.mem_append.mp hx with hx | hx
      · exact h.dig x hx
      · simp at hx; subst hx
        intro d hd
        rcases List.mem_append.mp hd with hd | hd
        · exact h.dig y hym d hd
        · simp at hd; omega
    · intro x hx
      have lift : ∀ {j : Nat} {z : RP}, q[j]? = some z → (q ++ [(y.1 ++ [kk], g)])[j]? = some z := fun {j z} hz => by
        rw [List.getElem?_append_left (List.getElem?_eq_some_iff.mp hz).1]; exact hz
      rcases List.mem_append.mp hx with hx | hx
      · rcases h.par x hx with e | ⟨j, z, d, hj, hz, r⟩
        · exact .inl e
        · exact .inr ⟨j, z, d, by omega, lift hz, r⟩
      · simp at hx; subst hx
        exact .inr ⟨n, y, kk, .inr ⟨rfl, by omega⟩, lift hy, hk, rfl⟩
    · intro j z hz d hd hj
      have hjl : j < q.length := by omega
      rw [List.getElem?_append_left hjl] at hz
      by_cases hjj : j < n ∨ j = n ∧ d < kk
      · obtain ⟨x, hx, r⟩ := h.clo j z hz d hd hjj
        exact ⟨x, List.mem_append_left _ hx, r⟩
      · have e1 : j = n := by omega
        have e2 : d = kk := by omega
        subst e1 e2
        rw [hy] at hz
        cases hz
        exact ⟨(y.1 ++ [d], g), by simp, hg, Nat.le_refl _⟩
theorem QI.add {B : Nat} {mv : List (List Nat)} {n : Nat} {y : RP} : ∀ {gs : List Nat} {kk : Nat} {q : List RP}, QI B mv n kk q → q[n]? = some y → gs = ((List.range B).map (nxt mv y.2)).drop kk → kk ≤ B → QI B mv n B (addR q y.1 kk gs)
  | [], kk, q, h, hy, e, hk => by
    have : kk = B := by
      have := congrArg List.length e
      simp at this
      omega
    rw [addR, ← this]
    exact this ▸ h
  | g :: gs, kk, q, h, hy, e, hk => by
    have hk2 : kk < B := by
      have := congrArg List.length e
      simp at this
      omega
    rw [List.drop_eq_getElem_cons (by simpa using hk2)] at e
    simp only [List.getElem_map, List.getElem_range, List.cons.injEq] at e
    rw [addR]
    refine QI.add (h.step hy hk2 e.1) ?_ e.2 hk2
    split
    · exact hy
    · rw [List.getElem?_append_left (List.getElem?_eq_some_iff.mp hy).1]; exact hy
theorem QI.next {B : Nat} {mv : List (List Nat)} {n : Nat} {q : List RP} (h : QI B mv n B q) : QI B mv (n + 1) 0 q := by
  refine ⟨h.srt, h.led, h.dig, fun x hx => ?_, fun j z hz d hd hj => h.clo j z hz d hd (by omega)⟩
  rcases h.par x hx with e | ⟨j, z, d, hj, r⟩
  · exact .inl e
  · exact .inr ⟨j, z, d, by omega, r⟩
theorem qN_inv {k : Nat} {mv : List (List Nat)} {wd : List Nat} (w : WF k mv wd) : ∀ n, QI k mv n 0 (qN (goals mv) n)
  | 0 => by
    refine ⟨by simp [qN], ?_, ?_, ?_, ?_⟩
    · intro x hx; simp [qN] at hx; subst hx; rfl
    · intro x hx; simp [qN] at hx; subst hx; simp
    · intro x hx; simp [qN] at hx; subst hx; exact .inl rfl
    · intro j z hz d hd hj; omega
  | n + 1 => by
    have ih := qN_inv w n
    cases hx : (qN (goals mv) n)[n]? with
    | none =>
      rw [qN, hx]
      have hl : (qN (goals mv) n).length ≤ n := List.getElem?_eq_none_iff.mp hx
      refine ⟨ih.srt, ih.led, ih.dig, fun x hx => ?_, fun j z hz d hd hj => ih.clo j z hz d hd (.inl ?_)⟩ <;> dsimp only at *
      · rcases ih.par x hx with e | ⟨j, z, d, hj, r⟩
        · exact .inl e
        · exact .inr ⟨j, z, d, by omega, r⟩
      · have := (List.getElem?_eq_some_iff.mp hz).1
        omega
    | some y =>
      rw [qN, hx]
      have hp : y.2 < mv.length := by
        have h1 := List.mem_of_getElem? hx
        have h2 : y.2 ∈ bfs (goals mv) 0 n := by rw [← qN_places]; exact List.mem_map_of_mem h1
        exact bfs_ind (P := fun x => x < mv.length) w.pos (fun p g hp hg => w.lt p g hp hg) n _ h2
      exact (QI.add ih hx (by rw [w.goals_map hp]; rfl) (Nat.zero_le _)).next
/-- all rows, the first of each place -/
def qAll (mv : List (List Nat)) : List RP := qN (goals mv) mv.length
section
variable {k : Nat} {mv : List (List Nat)} {wd : List Nat} (w : WF k mv wd)
include w
theorem qlen (n : Nat) : (qN (goals mv) n).length ≤ mv.length := by
  have := bfs_len w.pos (fun p g hp hg => w.lt p g hp hg) n
  rw [← qN_places, List.length_map] at this
  exact this
theorem q_end {n : Nat} (h : (qN (goals mv) n).length ≤ n) : qN (goals mv) n = qAll mv := by
  have h1 := qN_stable h mv.length
  have h2 := qN_stable (qlen w mv.length) n
  unfold qAll
  rw [← h1, ← h2, Nat.add_comm]
theorem q_least : ∀ {r : List Nat}, (∀ d ∈ r, d < k) → ∃ x ∈ qAll mv, x.2 = led mv 0 r ∧ code k x.1 ≤ code k r := by
  intro r
  refine snoc_ind (P := fun r => (∀ d ∈ r, d < k) → ∃ x ∈ qAll mv, x.2 = led mv 0 r ∧ code k x.1 ≤ code k r) ?_ ?_ r
  · intro _
    obtain ⟨t, e⟩ := qN_pre (goals mv) 0 mv.length
    rw [Nat.zero_add] at e
    exact ⟨([], 0), by unfold qAll; rw [e]; simp [qN], rfl, Nat.le_refl _⟩
  · intro r d ih h
    obtain ⟨x, hx, e1, e2⟩ := ih fun y hy => h y (by simp [hy])
    obtain ⟨j, hj⟩ := List.getElem?_of_mem hx
    have hl : j < mv.length := Nat.lt_of_lt_of_le (List.getElem?_eq_some_iff.mp hj).1 (qlen w _)
    obtain ⟨z, hz, f1, f2⟩ := (qN_inv w mv.length).clo j x hj d (h d (by simp)) (.inl hl)
    exact ⟨z, hz, by rw [f1, e1, led_snoc], Nat.le_trans f2 (code_le e2)⟩
theorem q_led {x : RP} (h : x ∈ qAll mv) : led mv 0 x.1 = x.2 ∧ (∀ d ∈ x.1, d < k) := ⟨(qN_inv w _).led x h, (qN_inv w _).dig x h⟩
theorem q_srt : (qAll mv).Pairwise fun a b => code k a.1 < code k b.1 := (qN_inv w _).srt
theorem q_places : (qAll mv).map (·.2) = bfs (goals mv) 0 mv.length := qN_places _ _
end
/-- the first row of a verdict -/
def firstRow (mv : List (List Nat)) (wd : List Nat) (v : Nat) : Option (List Nat) := ((qAll mv).find? fun x => decide (wd.getD x.2 0 = v)).map (·.1)
theorem firstRow_some {k : Nat} {mv : List (List Nat)} {wd : List Nat} (w : WF k mv wd) {v : Nat} {r : List Nat} (h : firstRow mv wd v = some r) :
    (∀ d ∈ r, d < k) ∧ says mv wd 0 r = v ∧ ∀ s, (∀ d ∈ s, d < k) → says mv wd 0 s = v → code k r ≤ code k s := by
  unfold firstRow at h
  cases hf : (qAll mv).find? (fun x => decide (wd.getD x.2 0 = v)) with
  | none => rw [hf] at h; cases h
  | some x =>
    rw [hf] at h
    cases h
    have hm := List.mem_of_find?_eq_some hf
    have hv := List.find?_some hf
    have hq := q_led w hm
    refine ⟨hq.2, ?_, fun s hs es => ?_⟩
    · unfold says; rw [hq.1]; simpa using hv
    · obtain ⟨z, hz, e1, e2⟩ := q_least w hs
      refine Nat.le_trans ?_ e2
      obtain ⟨as, bs, e, hn⟩ := (List.find?_eq_some_iff_append.mp hf).2
      rw [e] at hz
      have hz1 : wd.getD z.2 0 = v := by rw [e1]; exact es
      rcases List.mem_append.mp hz with hz | hz
      · have h4 := hn z hz
        rw [decide_eq_true hz1] at h4
        cases h4
      · rcases List.mem_cons.mp hz with hz | hz
        · rw [hz]; exact Nat.le_refl _
        · have := q_srt w
          rw [e, List.pairwise_append] at this
          exact Nat.le_of_lt ((List.pairwise_cons.mp this.2.1).1 z hz)
theorem firstRow_none {k : Nat} {mv : List (List Nat)} {wd : List Nat} (w : WF k mv wd) {v : Nat} (h : firstRow mv wd v = none) : ∀ s, (∀ d ∈ s, d < k) → says mv wd 0 s ≠ v := by
  intro s hs e
  unfold firstRow at h
  rw [Option.map_eq_none_iff, List.find?_eq_none] at h
  obtain ⟨z, hz, e1, e2⟩ := q_least w hs
  have := h z hz
  rw [e1] at this
  unfold says at e
  simp only [decide_eq_true_eq] at this
  exact this e
/-- watches that say the same have the same first rows -/
theorem firstRow_same {k : Nat} {mv mv2 : List (List Nat)} {wd wd2 : List Nat} (w : WF k mv wd) (w2 : WF k mv2 wd2) (h : ∀ s, (∀ d ∈ s, d < k) → says mv wd 0 s = says mv2 wd2 0 s) (v : Nat) : firstRow mv wd v = firstRow mv2 wd2 v := by
  cases h1 : firstRow mv wd v with
  | none =>
    cases h2 : firstRow mv2 wd2 v with
    | none => rfl
    | some r =>
      obtain ⟨a, b, _⟩ := firstRow_some w2 h2
      exact absurd (by rw [h r a, b]) (firstRow_none w h1 r a)
  | some r =>
    obtain ⟨a, b, c⟩ := firstRow_some w h1
    cases h2 : firstRow mv2 wd2 v with
    | none => exact absurd (by rw [← h r a, b]) (firstRow_none w2 h2 r a)
    | some s =>
      obtain ⟨a2, b2, c2⟩ := firstRow_some w2 h2
      have := code_inj a a2 (Nat.le_antisymm (c s a2 (by rw [h s a2, b2])) (c2 r a (by rw [← h r a, b])))
      rw [this]
end Mx
end
section
set_option linter.all false
namespace Mx
abbrev Dig (k : Nat) (r : List Nat) : Prop := ∀ d ∈ r, d < k
/-- the same from there on -/
def Sim (k : Nat) (mv : List (List Nat)) (wd : List Nat) (p q : Nat) : Prop := ∀ r, Dig k r → says mv wd p r = says mv wd q r
structure Least (k : Nat) (mv : List (List Nat)) (wd : List Nat) (f : List Nat → Nat) : Prop where
  wf : WF k mv wd
  says : ∀ r, Dig k r → says mv wd 0 r = f r
  num : bfs (goals mv) 0 mv.length = List.range mv.length
  min : ∀ p q, p < mv.length → q < mv.length → Sim k mv wd p q → p = q
theorem says_append (mv : List (List Nat)) (wd : List Nat) (p : Nat) (r s : List Nat) : says mv wd p (r ++ s) = says mv wd (led mv p r) s := by
  unfold says; rw [led_append]
theorem Least.row {k : Nat} {mv : List (List Nat)} {wd : List Nat} {f : List Nat → Nat} (L : Least k mv wd f) {p : Nat} (hp : p < mv.length) : ∃ r, Dig k r ∧ led mv 0 r = p := by
  have h1 : p ∈ bfs (goals mv) 0 mv.length := by rw [L.num]; simpa using hp
  rw [← q_places L.wf] at h1
  obtain ⟨x, hx, e⟩ := List.mem_map.mp h1
  exact ⟨x.1, (q_led L.wf hx).2, (q_led L.wf hx).1.trans e⟩
def rowTo (mv : List (List Nat)) (p : Nat) : List Nat := (((qAll mv).find? fun x => decide (x.2 = p)).map (·.1)).getD []
theorem rowTo_ok {k : Nat} {mv : List (List Nat)} {wd : List Nat} (w : WF k mv wd) {r : List Nat} (hr : Dig k r) : Dig k (rowTo mv (led mv 0 r)) ∧ led mv 0 (rowTo mv (led mv 0 r)) = led mv 0 r := by
  obtain ⟨x, hx, e, _⟩ := q_least w hr
  unfold rowTo
  cases hf : (qAll mv).find? (fun x => decide (x.2 = led mv 0 r)) with
  | none =>
    rw [List.find?_eq_none] at hf
    exact absurd (decide_eq_true e) (hf x hx)
  | some y =>
    have h1 := List.mem_of_find?_eq_some hf
    have h2 := List.find?_some hf
    have h3 : y.2 = led mv 0 r := by simpa using h2
    exact ⟨(q_led w h1).2, (q_led w h1).1.trans h3⟩
theorem dig_append {k : Nat} {r s : List Nat} (h : Dig k r) (h2 : Dig k s) : Dig k (r ++ s) := fun d hd => (List.mem_append.mp hd).elim (h d) (h2 d)
theorem dig_nil {k : Nat} : Dig k [] := fun d hd => by cases hd
theorem dig_one {k d : Nat} (h : d < k) : Dig k [d] := fun e he => by simp at he; exact he ▸ h
theorem least_unique {k : Nat} {mv mv2 : List (List Nat)} {wd wd2 : List Nat} {f : List Nat → Nat} (L : Least k mv wd f) (L2 : Least k mv2 wd2 f) : mv = mv2 ∧ wd = wd2 := by
  let φ : Nat → Nat := fun p => led mv2 0 (rowTo mv p)
  have sim : ∀ r s, Dig k r → Dig k s → led mv 0 r = led mv 0 s → led mv2 0 r = led mv2 0 s := by
    intro r s hr hs e
    refine L2.min _ _ (L2.wf.led_lt L2.wf.pos hr) (L2.wf.led_lt L2.wf.pos hs) fun t ht => ?_
    rw [← says_append, ← says_append, L2.says _ (dig_append hr ht), L2.says _ (dig_append hs ht), ← L.says _ (dig_append hr ht), ← L.says _ (dig_append hs ht), says_append, says_append, e]
  have sim2 : ∀ r s, Dig k r → Dig k s → led mv2 0 r = led mv2 0 s → led mv 0 r = led mv 0 s := by
    intro r s hr hs e
    refine L.min _ _ (L.wf.led_lt L.wf.pos hr) (L.wf.led_lt L.wf.pos hs) fun t ht => ?_
    rw [← says_append, ← says_append, L.says _ (dig_append hr ht), L.says _ (dig_append hs ht), ← L2.says _ (dig_append hr ht), ← L2.says _ (dig_append hs ht), says_append, says_append, e]
  have hφ : ∀ r, Dig k r → φ (led mv 0 r) = led mv2 0 r := fun r hr => sim _ _ (rowTo_ok L.wf hr).1 hr (rowTo_ok L.wf hr).2
  have h0 : φ 0 = 0 := hφ [] dig_nil
  have look : ∀ p, p < mv.length → goals mv2 (φ p) = (goals mv p).map φ := by
    intro p hp
    obtain ⟨r, hr, e⟩ := L.row hp
    have hp2 : φ p < mv2.length := by rw [← e, hφ r hr]; exact L2.wf.led_lt L2.wf.pos hr
    rw [L2.wf.goals_map hp2, L.wf.goals_map hp, List.map_map]
    refine List.map_congr_left fun d hd => ?_
    have hd : d < k := by simpa using hd
    have h1 : Dig k (r ++ [d]) := dig_append hr (dig_one hd)
    have := hφ _ h1
    rw [led_snoc, led_snoc, e, ← hφ r hr, e] at this
    exact this.symm
  have B := fun n => bfs_map (φ := φ) (look := goals mv) (look2 := goals mv2) (a := 0) (S := fun p => p < mv.length) L.wf.pos (fun p g hp hg => L.wf.lt p g hp hg) (fun x y hx hy e => by
    obtain ⟨r, hr, e1⟩ := L.row hx
    obtain ⟨s, hs, e2⟩ := L.row hy
    rw [← e1, ← e2, hφ r hr, hφ s hs] at e
    rw [← e1, ← e2]
    exact sim2 r s hr hs e) look n
  rw [h0] at B
  have C := B (mv.length + mv2.length)
  have l1 : bfs (goals mv) 0 (mv.length + mv2.length) = List.range mv.length := by
    rw [bfs_stable (by rw [L.num]; simp), L.num]
  have l2 : bfs (goals mv2) 0 (mv.length + mv2.length) = List.range mv2.length := by
    rw [Nat.add_comm, bfs_stable (by rw [L2.num]; simp), L2.num]
  rw [l1, l2] at C
  have len : mv2.length = mv.length := by simpa using congrArg List.length C
  have fix : ∀ p, p < mv.length → φ p = p := by
    intro p hp
    have := congrArg (fun l => l[p]?) C
    simp [hp, len] at this
    exact this.symm
  have gl : ∀ p, p < mv.length → goals mv2 p = goals mv p := by
    intro p hp
    have h1 := look p hp
    rw [fix p hp] at h1
    rw [h1]
    conv => rhs; rw [← List.map_id (goals mv p)]
    exact List.map_congr_left fun g hg => fix g (L.wf.lt p g hp hg)
  constructor
  · apply List.ext_getElem?
    intro i
    by_cases h : i < mv.length
    · rw [goals_of h, goals_of (by omega), gl i h]
    · rw [List.getElem?_eq_none (by omega), List.getElem?_eq_none (by omega)]
  · apply List.ext_getElem?
    intro i
    have w1 := L.wf.wl
    have w2 := L2.wf.wl
    by_cases h : i < mv.length
    · obtain ⟨r, hr, e⟩ := L.row h
      have h1 := L.says r hr
      have h2 := L2.says r hr
      unfold Mx.says at h1 h2
      rw [e] at h1
      rw [← hφ r hr, e, fix i h] at h2
      rw [List.getElem?_eq_getElem (by omega), List.getElem?_eq_getElem (by omega)]
      rw [← h2, List.getD_eq_getElem?_getD, List.getD_eq_getElem?_getD, List.getElem?_eq_getElem (by omega), List.getElem?_eq_getElem (by omega)] at h1
      exact congrArg some h1
    · rw [List.getElem?_eq_none (by omega), List.getElem?_eq_none (by omega)]

/-! ### the watch of classes -/
theorem idxOf_at {l : List Nat} (nd : l.Nodup) {i x : Nat} (h : l[i]? = some x) : l.idxOf x = i := by
  obtain ⟨hl, e⟩ := List.getElem?_eq_some_iff.mp h
  rw [← e]
  exact nd.idxOf_getElem i hl
theorem idxOf_inj {l : List Nat} {x y : Nat} (hx : x ∈ l) (hy : y ∈ l) (h : l.idxOf x = l.idxOf y) : x = y := by
  have h1 := List.getElem_idxOf (List.idxOf_lt_length_iff.mpr hx)
  have h2 := List.getElem_idxOf (List.idxOf_lt_length_iff.mpr hy)
  rw [← h1, ← h2]
  simp only [h]
theorem idxOf_range {l : List Nat} (nd : l.Nodup) : l.map (fun x => l.idxOf x) = List.range l.length := by
  apply List.ext_getElem
  · simp
  · intro i h1 h2
    simp only [List.getElem_map, List.getElem_range]
    exact nd.idxOf_getElem i (by simpa using h1)
section
variable {k : Nat} {mv : List (List Nat)} {wd : List Nat}
/-- labels of the reached places that tell just what is said from there on -/
structure Labels (k : Nat) (mv : List (List Nat)) (wd : List Nat) (c : Nat → Nat) : Prop where
  wf : WF k mv wd
  ker : ∀ p q, p ∈ bfs (goals mv) 0 mv.length → q ∈ bfs (goals mv) 0 mv.length → (c p = c q ↔ Sim k mv wd p q)
variable {c : Nat → Nat}
theorem Labels.reach (L : Labels k mv wd c) {p d : Nat} (hp : p ∈ bfs (goals mv) 0 mv.length) (hd : d < k) : p < mv.length ∧ nxt mv p d ∈ bfs (goals mv) 0 mv.length := by
  have h1 : p < mv.length := bfs_ind (P := fun x => x < mv.length) L.wf.pos (fun p g hp hg => L.wf.lt p g hp hg) _ p hp
  exact ⟨h1, bfs_all L.wf.pos (fun p g hp hg => L.wf.lt p g hp hg) hp (L.wf.nxt_mem h1 hd)⟩
theorem Labels.lt (L : Labels k mv wd c) {p : Nat} (hp : p ∈ bfs (goals mv) 0 mv.length) : p < mv.length := bfs_ind (P := fun x => x < mv.length) L.wf.pos (fun p g hp hg => L.wf.lt p g hp hg) _ p hp
theorem Labels.look (L : Labels k mv wd c) {p q : Nat} (hp : p ∈ bfs (goals mv) 0 mv.length) (hq : q ∈ bfs (goals mv) 0 mv.length) (e : c p = c q) : (goals mv p).map c = (goals mv q).map c := by
  rw [L.wf.goals_map (L.lt hp), L.wf.goals_map (L.lt hq), List.map_map, List.map_map]
  refine List.map_congr_left fun d hd => ?_
  have hd : d < k := by simpa using hd
  refine (L.ker _ _ (L.reach hp hd).2 (L.reach hq hd).2).mpr fun r hr => ?_
  have := (L.ker p q hp hq).mp e (d :: r) (fun x hx => (List.mem_cons.mp hx).elim (fun e => e ▸ hd) (hr x))
  exact this
theorem quot_least (L : Labels k mv wd c) {lookL : Nat → List Nat} {order reps : List Nat} {N : Nat} (hl : ∀ p, p ∈ bfs (goals mv) 0 mv.length → lookL (c p) = (goals mv p).map c)
    (ho : order = bfs lookL (c 0) N) (hN : order.length ≤ N) (hr : reps.map c = order) (hS : ∀ p ∈ reps, p ∈ bfs (goals mv) 0 mv.length) :
    Least k (reps.map fun p => (goals mv p).map fun g => order.idxOf (c g)) (reps.map fun p => wd.getD p 0) (says mv wd 0) := by
  have r0 : 0 ∈ bfs (goals mv) 0 mv.length := bfs_mem _
  have nd : order.Nodup := ho ▸ bfs_nodup _
  have lr : reps.length = order.length := by rw [← hr]; simp
  -- labels in order
  have inS : ∀ x ∈ order, ∃ p, p ∈ bfs (goals mv) 0 mv.length ∧ c p = x := by
    intro x hx
    rw [← hr] at hx
    obtain ⟨p, hp, e⟩ := List.mem_map.mp hx
    exact ⟨p, hS p hp, e⟩
  have cin : ∀ p, p ∈ bfs (goals mv) 0 mv.length → c p ∈ order := by
    intro p hp
    have : ∀ x ∈ bfs (goals mv) 0 mv.length, x ∈ bfs (goals mv) 0 mv.length ∧ c x ∈ order := by
      refine bfs_ind (P := fun x => x ∈ bfs (goals mv) 0 mv.length ∧ c x ∈ order) ⟨r0, ?_⟩ (fun p g hp hg => ?_) _
      · rw [ho]; exact bfs_mem _
      · refine ⟨bfs_all L.wf.pos (fun p g hp hg => L.wf.lt p g hp hg) hp.1 hg, ?_⟩
        obtain ⟨j, hj⟩ := List.getElem?_of_mem hp.2
        have hjl := (List.getElem?_eq_some_iff.mp hj).1
        rw [ho] at hj ⊢
        refine bfs_closed (by omega) hj _ ?_
        rw [hl p hp.1]
        exact List.mem_map_of_mem hg
    exact (this p hp).2
  let ix : Nat → Nat := fun p => order.idxOf (c p)
  have ixl : ∀ p, p ∈ bfs (goals mv) 0 mv.length → ix p < reps.length := fun p hp => by
    rw [lr]; exact List.idxOf_lt_length_iff.mpr (cin p hp)
  have repc : ∀ p, (hp : p ∈ bfs (goals mv) 0 mv.length) → ∃ q, reps[ix p]? = some q ∧ q ∈ bfs (goals mv) 0 mv.length ∧ c q = c p := by
    intro p hp
    have h1 := ixl p hp
    refine ⟨reps[ix p], List.getElem?_eq_getElem h1, hS _ (List.getElem_mem h1), ?_⟩
    have h2 : order[ix p]? = some (c p) := by
      have h3 : ix p < order.length := by rw [← lr]; exact h1
      rw [List.getElem?_eq_getElem h3]
      exact congrArg some (List.getElem_idxOf h3)
    rw [← hr, List.getElem?_map, List.getElem?_eq_getElem h1] at h2
    exact Option.some.inj h2
  have gt : ∀ p, p ∈ bfs (goals mv) 0 mv.length → goals (reps.map fun p => (goals mv p).map fun g => order.idxOf (c g)) (ix p) = (goals mv p).map ix := by
    intro p hp
    obtain ⟨q, h1, h2, h3⟩ := repc p hp
    show (List.map _ reps).getD (ix p) [] = _
    rw [List.getD_eq_getElem?_getD, List.getElem?_map, h1]
    show (goals mv q).map (fun g => order.idxOf (c g)) = (goals mv p).map ix
    have := L.look h2 hp h3
    have e1 : (goals mv q).map (fun g => order.idxOf (c g)) = ((goals mv q).map c).map (fun x => order.idxOf x) := by rw [List.map_map]; rfl
    have e2 : (goals mv p).map ix = ((goals mv p).map c).map (fun x => order.idxOf x) := by rw [List.map_map]; rfl
    rw [e1, e2, this]
  have wt : ∀ p, p ∈ bfs (goals mv) 0 mv.length → (reps.map fun p => wd.getD p 0).getD (ix p) 0 = wd.getD p 0 := by
    intro p hp
    obtain ⟨q, h1, h2, h3⟩ := repc p hp
    rw [List.getD_eq_getElem?_getD, List.getElem?_map, h1]
    exact (L.ker q p h2 hp).mp h3 [] dig_nil
  have nt : ∀ p d, p ∈ bfs (goals mv) 0 mv.length → d < k → nxt (reps.map fun p => (goals mv p).map fun g => order.idxOf (c g)) (ix p) d = ix (nxt mv p d) := by
    intro p d hp hd
    have h1 : d < (goals mv p).length := by rw [L.wf.kl p (L.lt hp)]; exact hd
    unfold nxt
    rw [gt p hp, List.getD_eq_getElem?_getD, List.getElem?_map, List.getD_eq_getElem?_getD, List.getElem?_eq_getElem h1]
    rfl
  have lt : ∀ (r : List Nat) (p : Nat), p ∈ bfs (goals mv) 0 mv.length → Dig k r → led mv p r ∈ bfs (goals mv) 0 mv.length ∧ led (reps.map fun p => (goals mv p).map fun g => order.idxOf (c g)) (ix p) r = ix (led mv p r) := by
    intro r
    induction r with
    | nil => exact fun p hp _ => ⟨hp, rfl⟩
    | cons d r ih =>
      intro p hp hd
      have h1 : d < k := hd d (by simp)
      obtain ⟨a, b⟩ := ih (nxt mv p d) (L.reach hp h1).2 fun x hx => hd x (by simp [hx])
      refine ⟨a, ?_⟩
      show led _ (nxt _ (ix p) d) r = _
      rw [nt p d hp h1, b]
      rfl
  have st : ∀ (r : List Nat) (p : Nat), p ∈ bfs (goals mv) 0 mv.length → Dig k r → says (reps.map fun p => (goals mv p).map fun g => order.idxOf (c g)) (reps.map fun p => wd.getD p 0) (ix p) r = says mv wd p r := by
    intro r p hp hd
    obtain ⟨a, b⟩ := lt r p hp hd
    show (List.map _ reps).getD _ 0 = _
    rw [b]
    exact wt _ a
  have ix0 : ix 0 = 0 := idxOf_at nd (by rw [ho]; exact bfs_head _)
  have rep_ix : ∀ i, i < reps.length → ∃ p, reps[i]? = some p ∧ p ∈ bfs (goals mv) 0 mv.length ∧ ix p = i := by
    intro i hi
    refine ⟨reps[i], List.getElem?_eq_getElem hi, hS _ (List.getElem_mem hi), idxOf_at nd ?_⟩
    rw [← hr, List.getElem?_map, List.getElem?_eq_getElem hi]; rfl
  have W : WF k (reps.map fun p => (goals mv p).map fun g => order.idxOf (c g)) (reps.map fun p => wd.getD p 0) := by
    refine ⟨?_, by simp, ?_, ?_⟩
    · have := ixl 0 r0
      simp
      omega
    · intro i hi
      simp at hi
      obtain ⟨p, _, hp, e⟩ := rep_ix i hi
      rw [← e, gt p hp]
      simp [L.wf.kl p (L.lt hp)]
    · intro i g hi hg
      simp at hi
      obtain ⟨p, _, hp, e⟩ := rep_ix i hi
      rw [← e, gt p hp] at hg
      obtain ⟨q, hq, e2⟩ := List.mem_map.mp hg
      rw [← e2]
      simpa using ixl q (bfs_all L.wf.pos (fun p g hp hg => L.wf.lt p g hp hg) hp hq)
  refine ⟨W, fun r hr => by have := st r 0 r0 hr; rw [ix0] at this; exact this, ?_, ?_⟩
  · have B := bfs_map (φ := fun x => order.idxOf x) (look := lookL) (look2 := goals (reps.map fun p => (goals mv p).map fun g => order.idxOf (c g))) (a := c 0) (S := fun x => x ∈ order) (cin 0 r0) (fun x g hx hg => by
        obtain ⟨p, hp, e⟩ := inS x hx
        rw [← e, hl p hp] at hg
        obtain ⟨q, hq, e2⟩ := List.mem_map.mp hg
        rw [← e2]
        exact cin q (bfs_all L.wf.pos (fun p g hp hg => L.wf.lt p g hp hg) hp hq)) (fun x y hx hy e => idxOf_inj hx hy e) (fun x hx => by
        obtain ⟨p, hp, e⟩ := inS x hx
        rw [← e, hl p hp]
        have := gt p hp
        rw [List.map_map]
        exact this) N
    have e0 : order.idxOf (c 0) = 0 := ix0
    rw [e0, ← ho, idxOf_range nd] at B
    have len : (reps.map fun p => (goals mv p).map fun g => order.idxOf (c g)).length = order.length := by simp [lr]
    rw [len, ← B]
    have := bfs_end W.pos (fun p g hp hg => W.lt p g hp hg) (n := N) (by rw [B]; simpa using hN)
    rw [len] at this
    exact this.symm
  · intro i j hi hj s
    simp at hi hj
    obtain ⟨p, _, hp, e⟩ := rep_ix i hi
    obtain ⟨q, _, hq, e2⟩ := rep_ix j hj
    have : c p = c q := (L.ker p q hp hq).mpr fun r hr => by
      have := s r hr
      rw [← e, ← e2, st r p hp hr, st r q hq hr] at this
      exact this
    rw [← e, ← e2]
    show order.idxOf (c p) = order.idxOf (c q)
    rw [this]
end

/-! ### labels made finer -/
section
variable {k : Nat} {mv : List (List Nat)} {wd : List Nat}
/-- labels behind t rounds, on a set of places -/
structure Moore (S : List Nat) (mv : List (List Nat)) (wd : List Nat) (c : Nat → Nat → Nat) : Prop where
  base : ∀ p q, p ∈ S → q ∈ S → (c 0 p = c 0 q ↔ wd.getD p 0 = wd.getD q 0)
  step : ∀ t p q, p ∈ S → q ∈ S → (c (t + 1) p = c (t + 1) q ↔ c t p = c t q ∧ (goals mv p).map (c t) = (goals mv q).map (c t))
variable {S : List Nat} {c : Nat → Nat → Nat}
theorem Moore.upto (M : Moore S mv wd c) (w : WF k mv wd) (hS : ∀ p ∈ S, p < mv.length) (hc : ∀ p g, p ∈ S → g ∈ goals mv p → g ∈ S) : ∀ t p q, p ∈ S → q ∈ S → (c t p = c t q ↔ ∀ r, Dig k r → r.length ≤ t → says mv wd p r = says mv wd q r)
  | 0, p, q, hp, hq => by
    rw [M.base p q hp hq]
    constructor
    · intro e r _ hl
      rw [List.length_eq_zero_iff.mp (Nat.le_zero.mp hl)]
      exact e
    · intro h
      exact h [] dig_nil (by simp)
  | t + 1, p, q, hp, hq => by
    rw [M.step t p q hp hq, M.upto w hS hc t p q hp hq]
    have nx : ∀ d, d < k → nxt mv p d ∈ S ∧ nxt mv q d ∈ S := fun d hd => ⟨hc p _ hp (w.nxt_mem (hS p hp) hd), hc q _ hq (w.nxt_mem (hS q hq) hd)⟩
    rw [w.goals_map (hS p hp), w.goals_map (hS q hq), List.map_map, List.map_map]
    constructor
    · rintro ⟨h1, h2⟩ r hr hl
      cases r with
      | nil => exact h1 [] hr (by simp)
      | cons d r =>
        have hd : d < k := hr d (by simp)
        have h3 : c t (nxt mv p d) = c t (nxt mv q d) := by
          have := congrArg (fun l => l[d]?) h2
          simpa [hd] using this
        exact (M.upto w hS hc t _ _ (nx d hd).1 (nx d hd).2).mp h3 r (fun x hx => hr x (by simp [hx])) (by simpa using hl)
    · intro h
      refine ⟨fun r hr hl => h r hr (by omega), ?_⟩
      refine List.map_congr_left fun d hd => ?_
      have hd : d < k := by simpa using hd
      refine (M.upto w hS hc t _ _ (nx d hd).1 (nx d hd).2).mpr fun r hr hl => ?_
      exact h (d :: r) (fun x hx => (List.mem_cons.mp hx).elim (fun e => e ▸ hd) (hr x)) (by simpa using hl)
theorem Moore.fin (M : Moore S mv wd c) {t : Nat} (st : ∀ p q, p ∈ S → q ∈ S → c t p = c t q → c (t + 1) p = c (t + 1) q) (hc : ∀ p g, p ∈ S → g ∈ goals mv p → g ∈ S) (w : WF k mv wd) (hS : ∀ p ∈ S, p < mv.length) : ∀ i p q, p ∈ S → q ∈ S → (c t p = c t q ↔ c (t + i) p = c (t + i) q)
  | 0, p, q, _, _ => Iff.rfl
  | i + 1, p, q, hp, hq => by
    have ih := M.fin st hc w hS i
    rw [← Nat.add_assoc, M.step (t + i) p q hp hq, ← ih p q hp hq]
    constructor
    · intro e
      refine ⟨e, ?_⟩
      have h1 := ((M.step t p q hp hq).mp (st p q hp hq e)).2
      have l1 := congrArg List.length h1
      simp only [List.length_map] at l1
      apply List.ext_getElem
      · simpa using l1
      · intro j h2 h3
        simp only [List.getElem_map]
        simp only [List.length_map] at h2 h3
        have h4 := congrArg (fun l => l[j]?) h1
        simp [h2, h3] at h4
        exact (ih _ _ (hc p _ hp (List.getElem_mem h2)) (hc q _ hq (List.getElem_mem h3))).mp h4
    · exact fun h => h.1
theorem Moore.sim (M : Moore S mv wd c) (w : WF k mv wd) (hS : ∀ p ∈ S, p < mv.length) (hc : ∀ p g, p ∈ S → g ∈ goals mv p → g ∈ S) {t : Nat} (st : ∀ p q, p ∈ S → q ∈ S → c t p = c t q → c (t + 1) p = c (t + 1) q) {p q : Nat} (hp : p ∈ S) (hq : q ∈ S) : c t p = c t q ↔ Sim k mv wd p q := by
  constructor
  · intro e r hr
    exact (M.upto w hS hc (t + r.length) p q hp hq).mp ((M.fin st hc w hS r.length p q hp hq).mp e) r hr (by omega)
  · intro s
    exact (M.upto w hS hc t p q hp hq).mpr fun r hr _ => s r hr
/-- how many labels there are -/
def many (l : List Nat) : Nat := (addNew [] l).length
theorem sub_len : ∀ {l m : List Nat}, l.Nodup → (∀ x ∈ l, x ∈ m) → l.length ≤ m.length
  | [], _, _, _ => Nat.zero_le _
  | x :: l, m, nd, h => by
    have h1 := h x (by simp)
    have nd' := List.nodup_cons.mp nd
    have := sub_len (m := m.erase x) nd'.2 fun y hy => (List.mem_erase_of_ne (fun e : y = x => nd'.1 (by rw [← e]; exact hy))).mpr (h y (by simp [hy]))
    rw [List.length_erase_of_mem h1] at this
    have : 0 < m.length := List.length_pos_of_mem h1
    simp
    omega
theorem sub_nodup : ∀ {m l : List Nat}, l.Nodup → (∀ x ∈ l, x ∈ m) → m.length ≤ l.length → m.Nodup
  | [], _, _, _, _ => List.nodup_nil
  | y :: m, l, nd, h, hl => by
    by_cases hy : y ∈ m
    · have h1 : ∀ x ∈ l, x ∈ m := fun x hx => by
        rcases List.mem_cons.mp (h x hx) with e | e
        · rw [e]; exact hy
        · exact e
      have := sub_len (m := m) nd h1
      simp at hl
      omega
    · refine List.nodup_cons.mpr ⟨hy, sub_nodup (l := l.erase y) (nd.erase y) (fun x hx => ?_) ?_⟩
      · have h1 := List.mem_of_mem_erase hx
        rcases List.mem_cons.mp (h x h1) with e | e
        · rw [e] at hx
          exact absurd hx (List.Nodup.not_mem_erase nd)
        · exact e
      · have := List.length_erase (a := y) (l := l)
        simp at hl
        split at this <;> omega
theorem mem_dedup {l : List Nat} {x : Nat} : x ∈ addNew [] l ↔ x ∈ l := by rw [mem_addNew]; simp
theorem dedup_nodup (l : List Nat) : (addNew [] l).Nodup := addNew_nodup List.nodup_nil
/-- a finer labelling has no fewer labels; just as many: the same classes -/
theorem finer {f g : Nat → Nat} (h : ∀ p q, p ∈ S → q ∈ S → g p = g q → f p = f q) : many (S.map f) ≤ many (S.map g) ∧ (many (S.map g) ≤ many (S.map f) → ∀ p q, p ∈ S → q ∈ S → f p = f q → g p = g q) := by
  let u : Nat → Nat := fun x => ((S.find? fun p => decide (g p = x)).map f).getD 0
  have hu : ∀ p, p ∈ S → u (g p) = f p := by
    intro p hp
    show ((S.find? fun q => decide (g q = g p)).map f).getD 0 = f p
    cases hf : S.find? (fun q => decide (g q = g p)) with
    | none => exact absurd (decide_eq_true rfl) (List.find?_eq_none.mp hf p hp)
    | some q =>
      have h1 := List.mem_of_find?_eq_some hf
      have h2 : g q = g p := by simpa using List.find?_some hf
      exact h q p h1 hp h2
  have sub : ∀ x ∈ addNew [] (S.map f), x ∈ (addNew [] (S.map g)).map u := by
    intro x hx
    obtain ⟨p, hp, e⟩ := List.mem_map.mp (mem_dedup.mp hx)
    exact List.mem_map.mpr ⟨g p, mem_dedup.mpr (List.mem_map_of_mem hp), by rw [hu p hp, e]⟩
  refine ⟨by simpa [many] using sub_len (dedup_nodup _) sub, fun hl p q hp hq e => ?_⟩
  have nd := sub_nodup (dedup_nodup (S.map f)) sub (by simpa [many] using hl)
  have h1 : g p ∈ addNew [] (S.map g) := mem_dedup.mpr (List.mem_map_of_mem hp)
  have h2 : g q ∈ addNew [] (S.map g) := mem_dedup.mpr (List.mem_map_of_mem hq)
  obtain ⟨i, hi⟩ := List.getElem?_of_mem h1
  obtain ⟨j, hj⟩ := List.getElem?_of_mem h2
  have e1 : ((addNew [] (S.map g)).map u)[i]? = some (f p) := by rw [List.getElem?_map, hi]; exact congrArg some (hu p hp)
  have e2 : ((addNew [] (S.map g)).map u)[j]? = some (f p) := by rw [List.getElem?_map, hj]; exact congrArg some ((hu q hq).trans e.symm)
  have : i = j := by
    have hil := (List.getElem?_eq_some_iff.mp e1).1
    exact (List.getElem?_inj hil nd).mp (e1.trans e2.symm)
  subst this
  rw [hi] at hj
  exact Option.some.inj hj
theorem Moore.stable (M : Moore S mv wd c) {t : Nat} (h : many (S.map (c (t + 1))) ≤ many (S.map (c t))) : ∀ p q, p ∈ S → q ∈ S → c t p = c t q → c (t + 1) p = c (t + 1) q :=
  (finer fun p q hp hq e => ((M.step t p q hp hq).mp e).1).2 h
/-- behind as many rounds as there are places nothing changes -/
theorem Moore.rounds (M : Moore S mv wd c) (w : WF k mv wd) (hS : ∀ p ∈ S, p < mv.length) (hc : ∀ p g, p ∈ S → g ∈ goals mv p → g ∈ S) {p q : Nat} (hp : p ∈ S) (hq : q ∈ S) {n : Nat} (hn : S.length ≤ n) : c n p = c n q ↔ Sim k mv wd p q := by
  have bound : ∀ t, many (S.map (c t)) ≤ S.length := fun t => by
    have := sub_len (m := S.map (c t)) (dedup_nodup (S.map (c t))) fun x hx => mem_dedup.mp hx
    simpa [many] using this
  have ex : ∃ t, t ≤ n ∧ ∀ p q, p ∈ S → q ∈ S → c t p = c t q → c (t + 1) p = c (t + 1) q := by
    refine Classical.byContradiction fun no => ?_
    have grow : ∀ t, t ≤ n + 1 → t ≤ many (S.map (c t)) := by
      intro t
      induction t with
      | zero => exact fun _ => Nat.zero_le _
      | succ t ih =>
        intro ht
        have h1 := ih (by omega)
        refine Classical.byContradiction fun h2 => no ⟨t, by omega, M.stable (by omega)⟩
    have h1 := grow (n + 1) (Nat.le_refl _)
    have h2 := bound (n + 1)
    omega
  obtain ⟨t, ht, st⟩ := ex
  rw [← M.sim w hS hc st hp hq, M.fin st hc w hS (n - t) p q hp hq]
  rw [Nat.add_sub_cancel' ht]
end
/-! ### labels by keys -/
/-- the numbers of keys as they are first met -/
def addK (f gs : List (List Nat)) : List (List Nat) := gs.foldl (fun f g => if g ∈ f then f else f ++ [g]) f
theorem mem_addK : ∀ {gs f : List (List Nat)} {x : List Nat}, x ∈ addK f gs ↔ x ∈ f ∨ x ∈ gs
  | [], f, x => by simp [addK]
  | g :: gs, f, x => by
    show x ∈ addK (if g ∈ f then f else f ++ [g]) gs ↔ _
    rw [mem_addK]
    split
    · rename_i h
      constructor
      · rintro (h1 | h1)
        · exact .inl h1
        · exact .inr (by simp [h1])
      · rintro (h1 | h1)
        · exact .inl h1
        · rcases List.mem_cons.mp h1 with h2 | h2
          · exact .inl (h2 ▸ h)
          · exact .inr h2
    · simp [or_assoc]
theorem idxOfK_inj {l : List (List Nat)} {x y : List Nat} (hx : x ∈ l) (hy : y ∈ l) (h : l.idxOf x = l.idxOf y) : x = y := by
  have h1 := List.getElem_idxOf (List.idxOf_lt_length_iff.mpr hx)
  have h2 := List.getElem_idxOf (List.idxOf_lt_length_iff.mpr hy)
  rw [← h1, ← h2]
  simp only [h]
theorem addK_snoc (f gs : List (List Nat)) (g : List Nat) : addK f (gs ++ [g]) = if g ∈ addK f gs then addK f gs else addK f gs ++ [g] := by
  unfold addK; rw [List.foldl_append]; rfl
theorem addK_nodup : ∀ {gs f : List (List Nat)}, f.Nodup → (addK f gs).Nodup
  | [], f, h => h
  | g :: gs, f, h => by
    show (addK (if g ∈ f then f else f ++ [g]) gs).Nodup
    split
    · exact addK_nodup h
    · rename_i hg
      apply addK_nodup
      rw [List.nodup_append]
      exact ⟨h, by simp, fun a ha b hb e => hg (by simp at hb; subst hb; exact e ▸ ha)⟩
theorem addK_pre : ∀ (gs f : List (List Nat)), ∃ t, addK f gs = f ++ t
  | [], f => ⟨[], by simp [addK]⟩
  | g :: gs, f => by
    show ∃ t, addK (if g ∈ f then f else f ++ [g]) gs = f ++ t
    split
    · exact addK_pre gs f
    · obtain ⟨t, h⟩ := addK_pre gs (f ++ [g])
      exact ⟨g :: t, by rw [h]; simp⟩
theorem addK_len (gs : List (List Nat)) : (addK [] gs).length ≤ gs.length := by
  have : ∀ (gs f : List (List Nat)), (addK f gs).length ≤ f.length + gs.length := by
    intro gs
    induction gs with
    | nil => intro f; simp [addK]
    | cons g gs ih =>
      intro f
      show (addK (if g ∈ f then f else f ++ [g]) gs).length ≤ _
      refine Nat.le_trans (ih _) ?_
      split <;> simp <;> omega
  simpa using this gs []
theorem idxOf_addK {gs hs : List (List Nat)} {r : List Nat} (h : r ∈ addK [] gs) : (addK [] (gs ++ hs)).idxOf r = (addK [] gs).idxOf r := by
  have e : addK [] (gs ++ hs) = addK (addK [] gs) hs := by unfold addK; rw [List.foldl_append]
  obtain ⟨t, ht⟩ := addK_pre hs (addK [] gs)
  rw [e, ht, List.idxOf_append, if_pos h]
/-- the package's labels -/
def labP (S : List Nat) (key : Nat → List Nat) (p : Nat) : Nat := (addK [] (S.map key)).idxOf (key p)
theorem labP_iff {S : List Nat} {key : Nat → List Nat} {p q : Nat} (hp : p ∈ S) (hq : q ∈ S) : labP S key p = labP S key q ↔ key p = key q :=
  ⟨fun h => idxOfK_inj (mem_addK.mpr (.inr (List.mem_map_of_mem hp))) (mem_addK.mpr (.inr (List.mem_map_of_mem hq))) h, fun h => by unfold labP; rw [h]⟩
def marksN (S : List Nat) (mv : List (List Nat)) (wd : List Nat) : Nat → Nat → Nat
  | 0 => labP S fun p => [wd.getD p 0]
  | t + 1 => labP S fun p => marksN S mv wd t p :: (goals mv p).map (marksN S mv wd t)
theorem marksN_moore (S : List Nat) (mv : List (List Nat)) (wd : List Nat) : Moore S mv wd (marksN S mv wd) := by
  refine ⟨fun p q hp hq => ?_, fun t p q hp hq => ?_⟩
  · rw [marksN, labP_iff hp hq]; simp
  · rw [marksN, labP_iff hp hq]; simp
/-- the law's labels -/
def labL (m : Nat) (key : Nat → List Nat) (p : Nat) : Nat := ((List.range m).map key).idxOf (key p)
theorem labL_iff {m : Nat} {key : Nat → List Nat} {p q : Nat} (hp : p < m) (hq : q < m) : labL m key p = labL m key q ↔ key p = key q :=
  ⟨fun h => idxOfK_inj (List.mem_map_of_mem (by simpa using hp)) (List.mem_map_of_mem (by simpa using hq)) h, fun h => by unfold labL; rw [h]⟩
def namesN (mv : List (List Nat)) (wd : List Nat) : Nat → Nat → Nat
  | 0 => fun p => wd.getD p 0
  | t + 1 => labL mv.length fun p => namesN mv wd t p :: (goals mv p).map (namesN mv wd t)
theorem namesN_moore (mv : List (List Nat)) (wd : List Nat) : Moore (List.range mv.length) mv wd (namesN mv wd) := by
  refine ⟨fun p q hp hq => ?_, fun t p q hp hq => ?_⟩
  · rw [namesN]
  · rw [namesN, labL_iff (by simpa using hp) (by simpa using hq)]; simp
theorem names_labels {k : Nat} {mv : List (List Nat)} {wd : List Nat} (w : WF k mv wd) : Labels k mv wd (namesN mv wd mv.length) := by
  refine ⟨w, fun p q hp hq => ?_⟩
  have h1 : ∀ x ∈ bfs (goals mv) 0 mv.length, x ∈ List.range mv.length := by
    intro x hx
    simpa using bfs_ind (P := fun x => x < mv.length) w.pos (fun p g hp hg => w.lt p g hp hg) _ x hx
  exact (namesN_moore mv wd).rounds w (fun p hp => by simpa using hp) (fun p g hp hg => by simpa using w.lt p g (by simpa using hp) hg) (h1 p hp) (h1 q hq) (by simp)
theorem marks_labels {k : Nat} {mv : List (List Nat)} {wd : List Nat} (w : WF k mv wd) {t : Nat} (h : many ((bfs (goals mv) 0 mv.length).map (marksN (bfs (goals mv) 0 mv.length) mv wd (t + 1))) = many ((bfs (goals mv) 0 mv.length).map (marksN (bfs (goals mv) 0 mv.length) mv wd t))) : Labels k mv wd (marksN (bfs (goals mv) 0 mv.length) mv wd (t + 1)) := by
  have M := marksN_moore (bfs (goals mv) 0 mv.length) mv wd
  have hS : ∀ p ∈ bfs (goals mv) 0 mv.length, p < mv.length := fun p hp => bfs_ind (P := fun x => x < mv.length) w.pos (fun p g hp hg => w.lt p g hp hg) _ p hp
  have hc : ∀ p g, p ∈ bfs (goals mv) 0 mv.length → g ∈ goals mv p → g ∈ bfs (goals mv) 0 mv.length := fun p g hp hg => bfs_all w.pos (fun p g hp hg => w.lt p g hp hg) hp hg
  have st := M.stable (Nat.le_of_eq h)
  refine ⟨w, fun p q hp hq => ?_⟩
  rw [← M.sim w hS hc st hp hq]
  exact (M.fin st hc w hS 1 p q hp hq).symm
end Mx
end
section
set_option linter.all false
namespace Mx
/-! ### the first place of each label -/
def firsts (c : Nat → Nat) (d : List Nat) : List Nat := d.foldl (fun f p => if c p ∈ f.map c then f else f ++ [p]) []
theorem firsts_snoc (c : Nat → Nat) (d : List Nat) (p : Nat) : firsts c (d ++ [p]) = if c p ∈ (firsts c d).map c then firsts c d else firsts c d ++ [p] := by
  unfold firsts; rw [List.foldl_append]; rfl
theorem firsts_sub (c : Nat → Nat) (d : List Nat) : (∀ p ∈ firsts c d, p ∈ d) ∧ ((firsts c d).map c).Nodup ∧ (∀ p ∈ d, c p ∈ (firsts c d).map c) ∧ (firsts c d).length ≤ d.length := by
  have key : ∀ n, ∀ d : List Nat, d.length = n → (∀ p ∈ firsts c d, p ∈ d) ∧ ((firsts c d).map c).Nodup ∧ (∀ p ∈ d, c p ∈ (firsts c d).map c) ∧ (firsts c d).length ≤ d.length := by
    intro n
    induction n with
    | zero =>
      intro d h
      rw [List.length_eq_zero_iff.mp h]
      simp [firsts]
    | succ n ih =>
      intro d h
      have hd : d ≠ [] := fun e => by rw [e] at h; simp at h
      obtain ⟨e, p, rfl⟩ : ∃ e p, d = e ++ [p] := ⟨_, _, (List.dropLast_concat_getLast hd).symm⟩
      obtain ⟨a, b, c', l⟩ := ih e (by simpa using h)
      rw [firsts_snoc]
      split
      · rename_i hm
        refine ⟨fun q hq => by simp [a q hq], b, fun q hq => ?_, by simp; omega⟩
        rcases List.mem_append.mp hq with hq | hq
        · exact c' q hq
        · simp at hq; rw [hq]; exact hm
      · rename_i hm
        refine ⟨fun q hq => ?_, ?_, fun q hq => ?_, by simp; omega⟩
        · rcases List.mem_append.mp hq with hq | hq
          · simp [a q hq]
          · simp at hq; simp [hq]
        · rw [List.map_append, List.nodup_append]
          exact ⟨b, by simp, fun x hx y hy e => hm (by simp at hy; rw [← hy, ← e]; exact hx)⟩
        · rw [List.map_append]
          rcases List.mem_append.mp hq with hq | hq
          · exact List.mem_append_left _ (c' q hq)
          · simp at hq; simp [hq]
  exact key _ d rfl
theorem nodup_of_map {α β : Type} {f : α → β} {l : List α} (nd : (l.map f).Nodup) : l.Nodup := by
  unfold List.Nodup at nd ⊢
  rw [List.pairwise_map] at nd
  exact nd.imp fun h e => h (by rw [e])
theorem nodup_inj {α β : Type} {f : α → β} {l : List α} (nd : (l.map f).Nodup) {a b : α} (ha : a ∈ l) (hb : b ∈ l) (e : f a = f b) : a = b := by
  obtain ⟨i, hi⟩ := List.getElem?_of_mem ha
  obtain ⟨j, hj⟩ := List.getElem?_of_mem hb
  have e1 : (l.map f)[i]? = some (f a) := by rw [List.getElem?_map, hi]; rfl
  have e2 : (l.map f)[j]? = some (f a) := by rw [List.getElem?_map, hj]; exact congrArg some e.symm
  have : i = j := (List.getElem?_inj (List.getElem?_eq_some_iff.mp e1).1 nd).mp (e1.trans e2.symm)
  subst this
  rw [hi] at hj
  exact Option.some.inj hj
/-- the first of a list with a label -/
def headOf (c : Nat → Nat) (H : List Nat) (x : Nat) : Nat := (H.find? fun p => decide (c p = x)).getD 0
theorem headOf_ok {c : Nat → Nat} {H : List Nat} {x : Nat} (h : x ∈ H.map c) : headOf c H x ∈ H ∧ c (headOf c H x) = x := by
  unfold headOf
  cases hf : H.find? (fun p => decide (c p = x)) with
  | none =>
    obtain ⟨p, hp, e⟩ := List.mem_map.mp h
    exact absurd (decide_eq_true e) (List.find?_eq_none.mp hf p hp)
  | some p => exact ⟨List.mem_of_find?_eq_some hf, by simpa using List.find?_some hf⟩
theorem headOf_self {c : Nat → Nat} {H : List Nat} (nd : (H.map c).Nodup) {p : Nat} (hp : p ∈ H) : headOf c H (c p) = p := by
  have h1 := headOf_ok (c := c) (H := H) (x := c p) (List.mem_map_of_mem hp)
  obtain ⟨i, hi⟩ := List.getElem?_of_mem h1.1
  obtain ⟨j, hj⟩ := List.getElem?_of_mem hp
  have e1 : (H.map c)[i]? = some (c p) := by rw [List.getElem?_map, hi]; exact congrArg some h1.2
  have e2 : (H.map c)[j]? = some (c p) := by rw [List.getElem?_map, hj]; rfl
  have : i = j := (List.getElem?_inj (List.getElem?_eq_some_iff.mp e1).1 nd).mp (e1.trans e2.symm)
  subst this
  rw [hi] at hj
  exact Option.some.inj hj
theorem labP_lt {S : List Nat} {key : Nat → List Nat} {p : Nat} (hp : p ∈ S) : labP S key p < S.length := by
  have h1 : labP S key p < (addK [] (S.map key)).length := List.idxOf_lt_length_iff.mpr (mem_addK.mpr (.inr (List.mem_map_of_mem hp)))
  have := addK_len (S.map key)
  simp at this
  omega
theorem marksN_lt {S : List Nat} {mv : List (List Nat)} {wd : List Nat} {t p : Nat} (hp : p ∈ S) : marksN S mv wd t p < S.length := by
  cases t with
  | zero => exact labP_lt hp
  | succ t => exact labP_lt hp
end Mx
end
section
set_option linter.all false
namespace Mx
/-! ### codes of rows, by length and kinds -/
def cd (B a : Nat) (r : List Nat) : Nat := r.foldl (fun a k => a * B + (k + 1)) a
theorem code_cd (B : Nat) (r : List Nat) : code B r = cd B 0 r := rfl
theorem cd_lt {B : Nat} : ∀ {r s : List Nat} {a b : Nat}, a < b → r.length = s.length → (∀ d ∈ r, d < B) → cd B a r < cd B b s
  | [], [], a, b, h, _, _ => h
  | [], _ :: _, _, _, _, h, _ => by simp at h
  | _ :: _, [], _, _, _, h, _ => by simp at h
  | x :: r, y :: s, a, b, h, hl, hd => by
    show cd B (a * B + (x + 1)) r < cd B (b * B + (y + 1)) s
    refine cd_lt ?_ (by simpa using hl) fun d hd' => hd d (by simp [hd'])
    have hx := hd x (by simp)
    have : (a + 1) * B ≤ b * B := Nat.mul_le_mul_right B h
    rw [Nat.add_mul] at this
    omega
def mn (B : Nat) : Nat → Nat
  | 0 => 0
  | n + 1 => mn B n * B + 1
theorem code_bounds {B : Nat} (hB : 0 < B) {r : List Nat} : (∀ d ∈ r, d < B) → mn B r.length ≤ code B r ∧ code B r < mn B (r.length + 1) := by
  refine snoc_ind (P := fun r => (∀ d ∈ r, d < B) → mn B r.length ≤ code B r ∧ code B r < mn B (r.length + 1)) ?_ ?_ r
  · intro _; simp [mn, code]
  · intro r d ih h
    obtain ⟨a, b⟩ := ih fun x hx => h x (by simp [hx])
    have hd := h d (by simp)
    rw [code_snoc, List.length_append, List.length_singleton]
    have h1 := Nat.mul_le_mul_right B a
    have h2 : (code B r + 1) * B ≤ mn B (r.length + 1) * B := Nat.mul_le_mul_right B b
    rw [Nat.add_mul] at h2
    have e1 : mn B (r.length + 1) = mn B r.length * B + 1 := rfl
    have e2 : mn B (r.length + 1 + 1) = mn B (r.length + 1) * B + 1 := rfl
    omega
theorem mn_mono {B : Nat} (hB : 0 < B) : ∀ {n m : Nat}, n ≤ m → mn B n ≤ mn B m := by
  have one : ∀ n, mn B n ≤ mn B (n + 1) := fun n => by
    have : mn B n * 1 ≤ mn B n * B := Nat.mul_le_mul_left _ hB
    show _ ≤ mn B n * B + 1
    omega
  intro n m h
  induction h with
  | refl => exact Nat.le_refl _
  | step _ ih => exact Nat.le_trans ih (one _)
theorem code_len {B : Nat} (hB : 0 < B) {r s : List Nat} (hr : ∀ d ∈ r, d < B) (hs : ∀ d ∈ s, d < B) (h : r.length < s.length) : code B r < code B s := by
  have h1 := (code_bounds hB hr).2
  have h2 := (code_bounds hB hs).1
  have := mn_mono hB (show r.length + 1 ≤ s.length from h)
  omega
/-- the first difference -/
inductive LexLt : List Nat → List Nat → Prop where
  | head {x y r s} : x < y → LexLt (x :: r) (y :: s)
  | tail {x r s} : LexLt r s → LexLt (x :: r) (x :: s)
theorem cd_lex {B : Nat} {r s : List Nat} (h : LexLt r s) : ∀ a, r.length = s.length → (∀ d ∈ r, d < B) → cd B a r < cd B a s := by
  induction h with
  | @head x y r s hxy =>
    intro a hl hd
    exact cd_lt (a := a * B + (x + 1)) (b := a * B + (y + 1)) (by omega) (by simpa using hl) fun d h => hd d (by simp [h])
  | tail _ ih =>
    intro a hl hd
    exact ih _ (by simpa using hl) fun d h => hd d (by simp [h])
theorem code_lex {B : Nat} {r s : List Nat} (h : LexLt r s) (hl : r.length = s.length) (hd : ∀ d ∈ r, d < B) : code B r < code B s := cd_lex h 0 hl hd
theorem addR_snoc (r : List Nat) : ∀ (gs : List Nat) (q : List RP) (k g : Nat), addR q r k (gs ++ [g]) = if g ∈ (addR q r k gs).map (·.2) then addR q r k gs else addR q r k gs ++ [(r ++ [k + gs.length], g)]
  | [], q, k, g => rfl
  | x :: gs, q, k, g => by
    rw [List.cons_append, addR, addR_snoc r gs, addR]
    simp only [List.length_cons]
    rw [show k + 1 + gs.length = k + (gs.length + 1) by omega]
theorem addR_mem (r : List Nat) : ∀ (gs : List Nat) (q : List RP) (k : Nat) (x : RP), x ∈ addR q r k gs → x ∈ q ∨ ∃ j, x.1 = r ++ [j]
  | [], q, k, x, h => .inl h
  | g :: gs, q, k, x, h => by
    rw [addR] at h
    rcases addR_mem r gs _ _ x h with h | h
    · split at h
      · exact .inl h
      · rcases List.mem_append.mp h with h | h
        · exact .inl h
        · simp at h; exact .inr ⟨k, by rw [h]⟩
    · exact .inr h
theorem qN_rowlen (look : Nat → List Nat) : ∀ n, ∀ x ∈ qN look n, x.1.length ≤ n
  | 0, x, h => by simp [qN] at h; subst h; simp
  | n + 1, x, h => by
    cases hx : (qN look n)[n]? with
    | none =>
      rw [qN, hx] at h
      exact Nat.le_succ_of_le (qN_rowlen look n x h)
    | some y =>
      rw [qN, hx] at h
      have hy := qN_rowlen look n y (List.mem_of_getElem? hx)
      rcases addR_mem _ _ _ _ x h with h | ⟨j, e⟩
      · exact Nat.le_succ_of_le (qN_rowlen look n x h)
      · rw [e]; simp; exact hy
/-! ### sums -/
def sumOf (l : List Nat) (f : Nat → Nat) : Nat := (l.map f).sum
theorem sumOf_nil (f : Nat → Nat) : sumOf [] f = 0 := rfl
theorem sumOf_cons (a : Nat) (l : List Nat) (f : Nat → Nat) : sumOf (a :: l) f = f a + sumOf l f := by simp [sumOf]
theorem sumOf_append (l m : List Nat) (f : Nat → Nat) : sumOf (l ++ m) f = sumOf l f + sumOf m f := by simp [sumOf]
theorem sumOf_perm {l m : List Nat} (h : l.Perm m) (f : Nat → Nat) : sumOf l f = sumOf m f := by
  induction h with
  | nil => rfl
  | cons x _ ih => rw [sumOf_cons, sumOf_cons, ih]
  | swap x y l => simp only [sumOf_cons]; omega
  | trans _ _ a b => exact a.trans b
theorem sumOf_congr {l : List Nat} {f g : Nat → Nat} (h : ∀ x ∈ l, f x = g x) : sumOf l f = sumOf l g := by
  unfold sumOf; rw [List.map_congr_left h]
theorem sumOf_zero {l : List Nat} {f : Nat → Nat} (h : ∀ x ∈ l, f x = 0) : sumOf l f = 0 := by
  induction l with
  | nil => rfl
  | cons a l ih => rw [sumOf_cons, h a (by simp), ih fun x hx => h x (by simp [hx])]
/-- outside of K nothing is added -/
theorem sumOf_sub {K : List Nat} {m : Nat} {f : Nat → Nat} (nd : K.Nodup) (hK : ∀ x ∈ K, x < m) (hz : ∀ x, x < m → x ∉ K → f x = 0) : sumOf K f = sumOf (List.range m) f := by
  have p1 : (List.range m).Perm ((List.range m).filter (fun x => decide (x ∈ K)) ++ (List.range m).filter (fun x => !decide (x ∈ K))) := (List.filter_append_perm _ _).symm
  rw [sumOf_perm p1, sumOf_append, sumOf_zero (l := (List.range m).filter (fun x => !decide (x ∈ K)))]
  · rw [Nat.add_zero]
    refine sumOf_perm ?_ f
    refine (List.perm_ext_iff_of_nodup nd (List.nodup_range.filter _)).mpr fun x => ?_
    simp only [List.mem_filter, List.mem_range, decide_eq_true_eq]
    exact ⟨fun h => ⟨hK x h, h⟩, fun h => h.2⟩
  · intro x hx
    simp only [List.mem_filter, List.mem_range, Bool.not_eq_true', decide_eq_false_iff_not] at hx
    exact hz x hx.1 hx.2
/-! ### how many rows of a length lead to a place -/
def ways (mv : List (List Nat)) : Nat → Nat → Nat
  | 0, q => if q = 0 then 1 else 0
  | d + 1, q => sumOf (List.range mv.length) fun p => ways mv d p * (goals mv p).count q
/-- how many rows of a length have a verdict -/
def wcount (mv : List (List Nat)) (wd : List Nat) (d v : Nat) : Nat := sumOf (List.range mv.length) fun p => if wd.getD p 0 = v then ways mv d p else 0
end Mx
end
section
set_option Elab.async false
set_option linter.all false
set_option maxRecDepth 100000
set_option maxHeartbeats 4000000
/-! PyV: how a def's combinators are read: heap facts, one step at a time -/
namespace PyA
open PySem L2
/-- the tape of draws: its cells are the first three; two ways to name its parts -/
def tapeKV : Bool → Int → Int → List (DK × PV)
  | true, rest, turn => [(.inl (.inr "large"), .loc 0), (.inl (.inr "rest"), .int rest), (.inl (.inr "cells"), .loc 2), (.inl (.inr "turn"), .int turn)]
  | false, rest, turn => [(.inl (.inr "great"), .loc 0), (.inl (.inr "cells"), .loc 2), (.inl (.inr "left"), .int rest), (.inl (.inr "turn"), .int turn)]
def Tp (τ : Bool) (h : Hh) : Prop := ∃ (lg cl : List Int) (rest turn : Int), h[0]? = some (.lst (lg.map .int)) ∧ h[1]? = some (.dic false (tapeKV τ rest turn)) ∧ h[2]? = some (.lst (cl.map .int)) ∧
  (∀ z ∈ lg, 0 ≤ z) ∧ (∀ z ∈ cl, 0 ≤ z) ∧ 0 ≤ rest ∧ 0 ≤ turn
theorem Tp.of {τ : Bool} {h h' : Hh} (t : Tp τ h) (e : ∀ i, i < 3 → h'[i]? = h[i]?) : Tp τ h' := by
  unfold Tp at t ⊢
  rw [e 0 (by decide), e 1 (by decide), e 2 (by decide)]
  exact t
theorem Tp.b {τ : Bool} {h : Hh} (t : Tp τ h) : 3 ≤ h.length := by
  obtain ⟨_, _, _, _, _, _, c, _⟩ := t
  exact (List.getElem?_eq_some_iff.mp c).1
/-- what stands stays, but for the tape -/
structure Ext (h h' : Hh) : Prop where
  len : h.length ≤ h'.length
  keep : ∀ i, 3 ≤ i → i < h.length → h'[i]? = h[i]?
  tape : ∀ τ, Tp τ h → Tp τ h'
theorem Ext.refl (h : Hh) : Ext h h := ⟨Nat.le_refl _, fun _ _ _ => rfl, fun _ => id⟩
theorem Ext.trans {h h1 h2 : Hh} (a : Ext h h1) (b : Ext h1 h2) : Ext h h2 :=
  ⟨Nat.le_trans a.len b.len, fun i h1 h2 => (b.keep i h1 (Nat.lt_of_lt_of_le h2 a.len)).trans (a.keep i h1 h2), fun τ t => b.tape τ (a.tape τ t)⟩
theorem Ext.get {h h' : Hh} (E : Ext h h') {l : Nat} {c : Cell} (e : h[l]? = some c) (b : 3 ≤ l) : h'[l]? = some c := (E.keep l b (List.getElem?_eq_some_iff.mp e).1).trans e
/-- cells of one's own -/
structure Own (h0 h : Hh) (L : List (Nat × Cell)) : Prop where
  base : 3 ≤ h0.length
  ext : Ext h0 h
  own : ∀ p ∈ L, h0.length ≤ p.1 ∧ h[p.1]? = some p.2
  nd : (L.map (·.1)).Nodup
theorem Own.start {h : Hh} (b : 3 ≤ h.length) : Own h h [] := ⟨b, Ext.refl h, fun p hp => by simp at hp, by simp⟩
section
variable {h0 h : Hh} {L : List (Nat × Cell)}
theorem Own.get (O : Own h0 h L) {l : Nat} {c : Cell} (m : (l, c) ∈ L) : h[l]? = some c := (O.own _ m).2
theorem Own.old (O : Own h0 h L) {l : Nat} {c : Cell} (e : h0[l]? = some c) (b : 3 ≤ l) : h[l]? = some c := O.ext.get e b
theorem Own.f1 {a : Nat} {x : Cell} {L : List (Nat × Cell)} (O : Own h0 h ((a, x) :: L)) : h[a]? = some x := O.get (by simp)
theorem Own.f2 {a b : Nat} {x y : Cell} {L : List (Nat × Cell)} (O : Own h0 h ((a, x) :: (b, y) :: L)) : h[a]? = some x ∧ h[b]? = some y := ⟨O.get (by simp), O.get (by simp)⟩
theorem Own.f3 {a b c : Nat} {x y z : Cell} {L : List (Nat × Cell)} (O : Own h0 h ((a, x) :: (b, y) :: (c, z) :: L)) : h[a]? = some x ∧ h[b]? = some y ∧ h[c]? = some z := ⟨O.get (by simp), O.get (by simp), O.get (by simp)⟩
theorem Own.f4 {a b c d : Nat} {x y z u : Cell} {L : List (Nat × Cell)} (O : Own h0 h ((a, x) :: (b, y) :: (c, z) :: (d, u) :: L)) : h[a]? = some x ∧ h[b]? = some y ∧ h[c]? = some z ∧ h[d]? = some u := ⟨O.get (by simp), O.get (by simp), O.get (by simp), O.get (by simp)⟩
theorem Own.lt (O : Own h0 h L) {l : Nat} {c : Cell} (m : (l, c) ∈ L) : l < h.length := (List.getElem?_eq_some_iff.mp (O.get m)).1
theorem Own.ge (O : Own h0 h L) {l : Nat} {c : Cell} (m : (l, c) ∈ L) : h0.length ≤ l := (O.own _ m).1
theorem Own.ge1 {a : Nat} {x : Cell} {L : List (Nat × Cell)} (O : Own h0 h ((a, x) :: L)) : h0.length ≤ a := O.ge (c := x) (by simp)
theorem Own.b (O : Own h0 h L) : 3 ≤ h.length := Nat.le_trans O.base O.ext.len
theorem Own.call {h' : Hh} (O : Own h0 h L) (E : Ext h h') : Own h0 h' L :=
  ⟨O.base, O.ext.trans E, fun p hp => ⟨(O.own p hp).1, E.get (O.own p hp).2 (Nat.le_trans O.base (O.own p hp).1)⟩, O.nd⟩
theorem Own.alloc (O : Own h0 h L) (c : Cell) : Own h0 (h ++ [c]) ((h.length, c) :: L) := by
  have E : Ext h (h ++ [c]) := ⟨by simp, fun i _ hi => List.getElem?_append_left hi, fun τ t => t.of fun i hi => List.getElem?_append_left (Nat.lt_of_lt_of_le hi O.b)⟩
  have O' := O.call E
  refine ⟨O.base, O'.ext, fun p hp => ?_, ?_⟩
  · rcases List.mem_cons.mp hp with e | hp
    · subst e
      exact ⟨O.ext.len, by simp⟩
    · exact O'.own p hp
  · rw [List.map_cons, List.nodup_cons]
    refine ⟨fun hm => ?_, O.nd⟩
    obtain ⟨p, hp, e⟩ := List.mem_map.mp hm
    have := O.lt (l := p.1) (c := p.2) hp
    omega
theorem Own.put (O : Own h0 h L) {i l : Nat} {c0 : Cell} (hi : L[i]? = some (l, c0)) (c : Cell) : Own h0 (h.set l c) (L.set i (l, c)) := by
  have hm := List.mem_of_getElem? hi
  have hl := O.lt hm
  have hg := O.ge hm
  have hil := (List.getElem?_eq_some_iff.mp hi).1
  have E : Ext h0 (h.set l c) := ⟨by simpa using O.ext.len, fun j h1 h2 => by rw [List.getElem?_set_ne (by omega)]; exact O.ext.keep j h1 h2, fun τ t => (O.ext.tape τ t).of fun j hj => List.getElem?_set_ne (by have := O.base; omega)⟩
  have nd : ((L.set i (l, c)).map (·.1)).Nodup := by
    rw [List.map_set]
    have : (L.map (·.1)).set i l = L.map (·.1) := by
      apply List.ext_getElem?
      intro j
      by_cases e : i = j
      · subst e
        rw [List.getElem?_set_self (by simpa using hil), List.getElem?_map, hi]; rfl
      · rw [List.getElem?_set_ne e]
    show ((L.map (·.1)).set i l).Nodup
    rw [this]
    exact O.nd
  refine ⟨O.base, E, fun p hp => ?_, nd⟩
  obtain ⟨j, hj⟩ := List.getElem?_of_mem hp
  by_cases e : i = j
  · subst e
    rw [List.getElem?_set_self hil] at hj
    cases hj
    exact ⟨hg, List.getElem?_set_self hl⟩
  · rw [List.getElem?_set_ne e] at hj
    have hp' := List.mem_of_getElem? hj
    refine ⟨(O.own p hp').1, ?_⟩
    rw [List.getElem?_set_ne]
    · exact (O.own p hp').2
    · intro z
      have h1 : (L.map (·.1))[i]? = some l := by rw [List.getElem?_map, hi]; rfl
      have h2 : (L.map (·.1))[j]? = some l := by rw [List.getElem?_map, hj]; exact congrArg some z.symm
      exact e ((List.getElem?_inj (by simpa using hil) O.nd).mp (h1.trans h2.symm))
theorem Own.sub {M : List (Nat × Cell)} (O : Own h0 h L) (s : M.Sublist L) : Own h0 h M :=
  ⟨O.base, O.ext, fun p hp => O.own p (s.subset hp), List.Sublist.nodup (s.map _) O.nd⟩
theorem Own.perm {M : List (Nat × Cell)} (O : Own h0 h L) (s : M.Perm L) : Own h0 h M :=
  ⟨O.base, O.ext, fun p hp => O.own p (s.subset hp), (s.map _).nodup_iff.mpr O.nd⟩
theorem Own.tail {p : Nat × Cell} (O : Own h0 h (p :: L)) : Own h0 h L := O.sub (List.sublist_cons_self _ _)
theorem Own.nil (O : Own h0 h L) : Own h0 h [] := O.sub (List.nil_sublist _)
theorem Own.swap {p q : Nat × Cell} (O : Own h0 h (p :: q :: L)) : Own h0 h (q :: p :: L) := O.perm (List.Perm.swap _ _ _)
/-- told of an elder heap -/
theorem Own.up {hh : Hh} (O : Own h0 h L) (E : Ext hh h0) (b : 3 ≤ hh.length) : Own hh h L := ⟨b, E.trans O.ext, fun p hp => ⟨Nat.le_trans E.len (O.own p hp).1, (O.own p hp).2⟩, O.nd⟩
end
/-- what was made in a frame of its own -/
theorem Own.join {h0 h1 h2 : Hh} {L M : List (Nat × Cell)} (O : Own h0 h1 L) (P : Own h1 h2 M) : Own h0 h2 (M ++ L) := by
  have O2 := O.call P.ext
  refine ⟨O.base, O2.ext, fun p hp => ?_, ?_⟩
  · rcases List.mem_append.mp hp with hp | hp
    · exact ⟨Nat.le_trans O.ext.len (P.own p hp).1, (P.own p hp).2⟩
    · exact O2.own p hp
  · rw [List.map_append, List.nodup_append]
    refine ⟨P.nd, O.nd, fun a ha b hb e => ?_⟩
    obtain ⟨p, hp, e1⟩ := List.mem_map.mp ha
    obtain ⟨q, hq, e2⟩ := List.mem_map.mp hb
    have h1 := (P.own p hp).1
    have h2 := O.lt (l := q.1) (c := q.2) hq
    omega
/-! ### allocation and change by name -/
def New (h : Hh) (c : Cell) (P : Nat → Hh → Prop) : Prop := P h.length (h ++ [c])
def Put (h : Hh) (l : Nat) (c : Cell) (P : Hh → Prop) : Prop := P (h.set l c)
theorem new_own {h0 h : Hh} {L : List (Nat × Cell)} {c : Cell} {P : Nat → Hh → Prop} (O : Own h0 h L) (k : ∀ l h', Own h0 h' ((l, c) :: L) → P l h') : New h c P := k _ _ (O.alloc c)
theorem put_own {h0 h : Hh} {L : List (Nat × Cell)} {l : Nat} {c0 c : Cell} {P : Hh → Prop} (O : Own h0 h L) (i : Nat) (hi : L[i]? = some (l, c0)) (k : ∀ h', Own h0 h' (L.set i (l, c)) → P h') : Put h l c P := k _ (O.put hi c)
def TupIx (xs : List PV) (y : PV) (h : Hh) (Q : QV) : Prop := ∃ n d ds j z, xs.mapM (dat h n) = some ds ∧ dat h n y = some d ∧ SeqAt.shaped (.list ds) = true ∧ SeqAt.shaped d = true ∧ ds[j]? = some z ∧ PyData.eqv z d = true ∧
    (∀ (m : Nat) (z' : PyData), m < j → ds[m]? = some z' → PyData.eqv z' d = false) ∧ Q (.int (j : Nat)) h
def Later (B : AS) (D : AD) (e : Ev) (h : Hh) : Prop := B.run D e h
/-! ### what the combinators say -/
section
variable {e : Ev} {h : Hh} {Q : QV} {R : QX} {D : AD}
theorem w_var {i : Nat} : (aVar i).run e h Q R = ∃ x, e[i]? = some (some x) ∧ Q x h := rfl
theorem w_c {x : PV} : (aC x).run e h Q R = Q x h := rfl
theorem w_nil {Q : List PV → Hh → Prop} : aNil.run e h Q R = Q [] h := rfl
theorem w_cons {A : AE} {B : AA} {Q : List PV → Hh → Prop} : (aCons A B).run e h Q R = A.run e h (fun x h1 => B.run e h1 (fun xs h2 => Q (x :: xs) h2) R) R := rfl
theorem w_star {A : AE} {B : AA} {Q : List PV → Hh → Prop} : (aStar A B).run e h Q R = A.run e h (fun x h1 => ∃ xs, itemsOf h1 x = some xs ∧ B.run e h1 (fun ys h2 => Q (xs ++ ys) h2) R) R := rfl
theorem w_tup {A : AA} : (aTup A).run e h Q R = A.run e h (fun xs h1 => xs.length ≤ sizeLine ∧ Q (.tup xs) h1) R := rfl
theorem w_lst {A : AA} : (aLst A).run e h Q R = A.run e h (fun xs h1 => xs.length ≤ sizeLine ∧ New h1 (.lst xs) fun l h2 => Q (.loc l) h2) R := rfl
theorem w_o2 {o : AO2} {A B : AE} : (aO2 o A B).run e h Q R = A.run e h (fun x h1 => B.run e h1 (fun y h2 => o.run x y h2 Q) R) R := rfl
theorem w_on {o : AON} {A : AA} : (aON o A).run e h Q R = A.run e h (fun xs h1 => o.run xs h1 Q) R := rfl
theorem w_tb {A : AE} {Q : Bool → Hh → Prop} : (aTB A).run e h Q R = A.run e h (fun x h1 => ∃ b, x = .bl b ∧ Q b h1) R := rfl
theorem w_chain {o o' : AO2} {A B C : AE} : (aChain o o' A B C).run e h Q R = A.run e h (fun x h1 => B.run e h1 (fun y h2 => o.run x y h2 fun z h3 => ∃ k, z = .bl k ∧ if k = true then C.run e h3 (fun u h4 => o'.run y u h4 Q) R else Q (.bl false) h3) R) R := rfl
theorem w_tand {A B : AT} {Q : Bool → Hh → Prop} : (aTAnd A B).run e h Q R = A.run e h (fun b h1 => if b = true then B.run e h1 Q R else Q false h1) R := rfl
theorem w_tor {A B : AT} {Q : Bool → Hh → Prop} : (aTOr A B).run e h Q R = A.run e h (fun b h1 => if b = true then Q true h1 else B.run e h1 Q R) R := rfl
theorem w_tnot {A : AT} {Q : Bool → Hh → Prop} : (aTNot A).run e h Q R = A.run e h (fun b h1 => Q (!b) h1) R := rfl
theorem w_tys {Q : Bool → Hh → Prop} : tYs.run e h Q R = Q true h := rfl
theorem w_and {A B : AE} : (aAnd A B).run e h Q R = A.run e h (fun x h1 => ∃ b, x = .bl b ∧ if b = true then B.run e h1 Q R else Q (.bl false) h1) R := rfl
theorem w_or {A B : AE} : (aOr A B).run e h Q R = A.run e h (fun x h1 => ∃ b, x = .bl b ∧ if b = true then Q (.bl true) h1 else B.run e h1 Q R) R := rfl
theorem w_not {A : AE} : (aNot A).run e h Q R = A.run e h (fun x h1 => ∃ b, x = .bl b ∧ Q (.bl (!b)) h1) R := rfl
theorem w_ife {C : AT} {A B : AE} : (aIfE C A B).run e h Q R = C.run e h (fun b h1 => if b = true then A.run e h1 Q R else B.run e h1 Q R) R := rfl
theorem w_neg {A : AE} : (aNeg A).run e h Q R = A.run e h (fun x h1 => ∃ i, x = .int i ∧ Q (.int (-i)) h1) R := rfl
theorem w_call {F : AF} {dps : List PV} {A : AA} : (aCall F dps A).run e h Q R = A.run e h (fun xs h1 => F.run (xs ++ dps) h1 Q R) R := rfl
theorem w_callK {F : AF} {π : List Nat} {m : Nat} {A : AA} : (aCallK F π m A).run e h Q R = A.run e h (fun ys h2 => ys.length = m ∧ F.run (perm .non π ys) h2 Q R) R := rfl
theorem w_callP {i : Nat} {Φ : PhiT} {B : AA} : (aCallP i Φ B).run e h Q R = ∃ x F, e[i]? = some (some x) ∧ Φ x F ∧ B.run e h (fun xs h1 => F.run xs h1 Q R) R := rfl
theorem w_callL {WF : PhiT → AF} {Φ0 : PhiT} {d : LamD} {js : List Nat} {Ls : List PV → AF} {B : AA} : (aCallL WF Φ0 d js Ls B).run e h Q R = B.run e h (fun xs h1 => ∃ ys, capE e js = some ys ∧ ∀ f c cl us, (WF fun x F => (x = .clo d f c cl ys us ∧ F = Ls ys) ∨ Φ0 x F).run (xs ++ [.clo d f c cl ys us]) h1 Q R) R := rfl
theorem w_lam0 {d : LamD} : (aLam0 d).run e h Q R = ∀ f c, Q (.clo d f c [] [] []) h := rfl
theorem w_mt {tn : String} {m : AM} {A : AE} {B : AA} : (aMt tn m A B).run e h Q R = A.run e h (fun x h1 => RecvOk tn x h1 ∧ B.run e h1 (fun xs h2 => m.run x xs h2 Q) R) R := rfl
theorem w_fld {c f : Str} {A : AE} : (aFld c f A).run e h Q R = A.run e h (fun x h1 => ∃ l fs xs v, x = .loc l ∧ h1[l]? = some (.ins c fs xs) ∧ (fs.zip xs).lookup f = some v ∧ Q v h1) R := rfl
theorem w_xf {c f : Str} {A : AE} : (aXf c f A).run e h Q R = A.run e h (fun x h1 => ∃ fs xs v, x = .exn c fs xs ∧ (fs.zip xs).lookup f = some v ∧ Q v h1) R := rfl
theorem w_prop {c : Str} {F : AF} {A : AE} : (aProp c F A).run e h Q R = A.run e h (fun x h1 => ∃ l fs xs, x = .loc l ∧ h1[l]? = some (.ins c fs xs) ∧ F.run [x] h1 Q NX) R := rfl
theorem w_make {c : Str} {F : AF} {A : AA} : (aMake c F A).run e h Q R = A.run e h (fun xs h1 => New h1 (.ins c [] []) fun l h2 => F.run (.loc l :: xs) h2 (fun v h2 => v = .non ∧ Q (.loc l) h2) R) R := rfl
theorem w_dic0 : aDic0.run e h Q R = New h (.dic false []) fun l h2 => Q (.loc l) h2 := rfl
theorem w_disp {P : AP} : (aDisp P).run e h Q R = New h (.dik []) fun l h2 => P.run e h2 (fun ps h1 => ∃ kvs, h1[l]? = some (.dik []) ∧ mrgP [] ps = some kvs ∧ ps.length ≤ 15 ∧ Put h1 l (.dic false kvs) fun h3 => Q (.loc l) h3) R := rfl
theorem w_pnil {Q : List (PV × PV) → Hh → Prop} : apNil.run e h Q R = Q [] h := rfl
theorem w_pcons {A B : AE} {P : AP} {Q : List (PV × PV) → Hh → Prop} : (apCons A B P).run e h Q R = A.run e h (fun x h1 => B.run e h1 (fun y h2 => P.run e h2 (fun r h3 => Q ((x, y) :: r) h3) R) R) R := rfl
theorem w_lc {it : AI} {g : AG} {C : AT} {A : AE} {own : List Nat} : (aLc it g C A own).run e h Q R = it.run e h (fun J h1 => New h1 (.lst []) fun l h2 => compL g C A J.ok (wipeE e own) l Q J.items h2) R := rfl
theorem w_dc {it : AI} {g : AG} {C : AT} {A B : AE} {own : List Nat} : (aDc it g C A B own).run e h Q R = it.run e h (fun J h1 => New h1 (.dik []) fun l h2 => compD g C A B J.ok (wipeE e own) l Q J.items h2) R := rfl
theorem w_lock {A : AE} : (aLock A).run e h Q R = ∃ l kvs, h[l]? = some (.dic false kvs) ∧ Put h l (.dic true kvs) fun h1 => A.run e h1 (fun v h2 => h2[l]? = some (.dic true kvs) ∧ Put h2 l (.dic false kvs) (Q v)) R := rfl
theorem w_slock {A : AS} : (sLock A).run D e h = ∃ l kvs, h[l]? = some (.dic false kvs) ∧ Put h l (.dic true kvs) fun h1 => A.run (lkD D l kvs) e h1 := rfl
theorem w_lkAt {l : Nat} {kvs : List (DK × PV)} {P : Hh → Prop} : lkAt l kvs P h = (h[l]? = some (.dic true kvs) ∧ Put h l (.dic false kvs) P) := rfl
theorem w_lkN {l : Nat} {kvs : List (DK × PV)} : (lkD D l kvs).nx e h = lkAt l kvs (D.nx e) h := rfl
theorem w_lkR {l : Nat} {kvs : List (DK × PV)} {v : PV} : (lkD D l kvs).rt v h = lkAt l kvs (D.rt v) h := rfl
theorem w_lkB {l : Nat} {kvs : List (DK × PV)} : (lkD D l kvs).bk e h = lkAt l kvs (D.bk e) h := rfl
theorem w_lkC {l : Nat} {kvs : List (DK × PV)} : (lkD D l kvs).ct e h = lkAt l kvs (D.ct e) h := rfl
theorem w_lkX {l : Nat} {kvs : List (DK × PV)} {x : Exn} : (lkD D l kvs).ex x e h = D.ex x e h := rfl
theorem w_rg1 {A : AE} : (aRg1 A).run e h Q R = A.run e h (fun x h1 => ∃ n : Int, x = .int n ∧ 0 ≤ n ∧ n ≤ 16777216 ∧ New h1 (.lst ((List.range n.toNat).map fun i => .int (i : Nat))) fun l h2 => Q (.loc l) h2) R := rfl
-- statements
theorem w_seq {A B : AS} : (sSeq A B).run D e h = A.run { D with nx := Later B D } e h := rfl
theorem w_skip : sSkip.run D e h = D.nx e h := rfl
theorem w_brk : sBrk.run D e h = D.bk e h := rfl
theorem w_cnt : sCnt.run D e h = D.ct e h := rfl
theorem w_exp {A : AE} : (sExp A).run D e h = A.run e h (fun _ h' => D.nx e h') (fun x h' => D.ex x e h') := rfl
theorem w_ret {A : AE} : (sRet A).run D e h = A.run e h (fun v h' => D.rt v h') (fun x h' => D.ex x e h') := rfl
theorem w_retN : sRetN.run D e h = D.rt .non h := rfl
theorem w_asg {A : AE} {g : AG} : (sAsg A g).run D e h = A.run e h (fun v h' => g.run v e h' D.nx) (fun x h' => D.ex x e h') := rfl
theorem w_if {C : AT} {A B : AS} : (sIf C A B).run D e h = C.run e h (fun b h' => if b = true then A.run D e h' else B.run D e h') (fun x h' => D.ex x e h') := rfl
theorem w_par {i j : Nat} {A : AA} : (sPar i j A).run D e h = A.run e h (fun vs h' => ∃ v u, vs = [v, u] ∧ D.nx ((e.set i (some v)).set j (some u)) h') (fun x h' => D.ex x e h') := rfl
theorem w_par3 {i j l : Nat} {A : AA} : (sPar3 i j l A).run D e h = A.run e h (fun vs h' => ∃ v u t, vs = [v, u, t] ∧ D.nx (((e.set i (some v)).set j (some u)).set l (some t)) h') (fun x h' => D.ex x e h') := rfl
theorem w_for {it : AI} {g : AG} {B : AS} : (sFor it g B).run D e h = it.run e h (fun J h1 => loopF g B J.ok D J.items e h1) (fun x h' => D.ex x e h') := rfl
theorem w_raise {c fl : Str} {A : AE} : (sRaise1 c fl A).run D e h = A.run e h (fun v h' => D.ex ⟨c, [fl], [v]⟩ e h') (fun x h' => D.ex x e h') := rfl
theorem w_try {et : List (Str × Bool)} {i j : Nat} {A : AS} : (sTryK et i j A).run D e h = A.run { D with ex := fun x e' h' => ∃ b, (x.c, b) ∈ et ∧ if b = true then D.nx (((e'.set i none).set j (some (exnPV x))).set i none) h' else D.ex x e' h' } e h := rfl
theorem w_sfld {c f : Str} {A B : AE} : (sFldA c f A B).run D e h = B.run e h (fun y h1 => A.run e h1 (fun x h2 => ∃ l fs xs, x = .loc l ∧ h2[l]? = some (.ins c fs xs) ∧ fs.length < 1000 ∧ Put h2 l (.ins c (insPut f y fs xs).1 (insPut f y fs xs).2) fun h3 => D.nx e h3) (fun x h' => D.ex x e h')) (fun x h' => D.ex x e h') := rfl
-- targets
theorem w_nm {i : Nat} {v : PV} {Q : Ev → Hh → Prop} : (gNm i).run v e h Q = Q (e.set i (some v)) h := rfl
theorem w_gnil {vs : List PV} {Q : Ev → Hh → Prop} : gNil.run vs e h Q = (vs = [] ∧ Q e h) := rfl
theorem w_gcons {A : AG} {B : AGs} {vs : List PV} {Q : Ev → Hh → Prop} : (gCons A B).run vs e h Q = ∃ v r, vs = v :: r ∧ A.run v e h fun e1 h1 => B.run r e1 h1 Q := rfl
theorem w_gtp {n : Nat} {B : AGs} {v : PV} {Q : Ev → Hh → Prop} : (gTpn n B).run v e h Q = ∃ xs, v = .tup xs ∧ xs.length = n ∧ B.run xs e h Q := rfl
theorem w_gix {A B : AE} {v : PV} {Q : Ev → Hh → Prop} : (gIx A B).run v e h Q = A.run e h (fun x h1 => B.run e h1 (fun y h2 => o3Ix.run x y v h2 (Q e)) (fun _ _ => False)) (fun _ _ => False) := rfl
theorem w_o3 {x y z : PV} {Q : Hh → Prop} : o3Ix.run x y z h Q = ∃ l, x = .loc l ∧ ((∃ xs i j, h[l]? = some (.lst xs) ∧ y = .int i ∧ ixN xs.length i = some j ∧ Put h l (.lst (xs.set j z)) Q) ∨
    ∃ kvs k, h[l]? = some (.dic false kvs) ∧ dk? y = some k ∧ Kind kvs k ∧ kvs.length < sizeLine ∧ Put h l (.dic false (dPut kvs k z)) Q) := rfl
-- walks
theorem w_itS {A : AE} {Q : Itr → Hh → Prop} : (itS A).run e h Q R = A.run e h (fun x h1 => ∃ J, SeqItr x h1 J ∧ Q J h1) R := rfl
theorem w_itR1 {A : AA} {Q : Itr → Hh → Prop} : (itR1 A).run e h Q R = A.run e h (fun xs h1 => ∃ j : Int, xs = [.int j] ∧ -(2 ^ 62) ≤ j ∧ j < 2 ^ 62 ∧ Q (rngI 0 j.toNat) h1) R := rfl
theorem w_itR2 {A : AA} {Q : Itr → Hh → Prop} : (itR2 A).run e h Q R = A.run e h (fun xs h1 => ∃ i j : Int, xs = [.int i, .int j] ∧ (-(2 ^ 62) ≤ i ∧ i < 2 ^ 62 ∧ -(2 ^ 62) ≤ j ∧ j < 2 ^ 62) ∧ Q (rngI i (j - i).toNat) h1) R := rfl
theorem w_itEn {A : AA} {Q : Itr → Hh → Prop} : (itEn A).run e h Q R = A.run e h (fun xs h1 => ∃ x J, xs = [x] ∧ EnuItr x h1 J ∧ Q J h1) R := rfl
theorem w_itK {A : AE} {Q : Itr → Hh → Prop} : (itK A).run e h Q R = A.run e h (fun x h1 => ∃ J, (∃ l kvs, x = .loc l ∧ h1[l]? = some (.dic true kvs) ∧ J = ⟨kvs.map fun p => dkPV p.1, fun _ => True⟩) ∧ Q J h1) R := rfl
theorem w_itKV {A : AE} {Q : Itr → Hh → Prop} : (itKV A).run e h Q R = A.run e h (fun x h1 => ∃ J, (∃ l kvs, x = .loc l ∧ h1[l]? = some (.dic true kvs) ∧ (∀ p ∈ kvs, p.1.isLeft = true) ∧ kvs ≠ [] ∧ J = ⟨kvs.map fun p => .tup [dkPV p.1, p.2], fun _ => True⟩) ∧ Q J h1) R := rfl
theorem w_seqL {l : Nat} {J : Itr} : SeqItr (.loc l) h J = ∃ xs, h[l]? = some (.lst xs) ∧ J = ⟨xs, fun g => g[l]? = some (.lst xs)⟩ := rfl
theorem w_seqT {xs : List PV} {J : Itr} : SeqItr (.tup xs) h J = (J = ⟨xs, fun _ => True⟩) := rfl
theorem w_seqF {xs : List PV} {J : Itr} : SeqItr (.fls xs) h J = (J = ⟨xs, fun _ => True⟩) := rfl
theorem w_seqTF {xs : List PV} {J : Itr} : SeqItr (.ftp xs) h J = (J = ⟨xs, fun _ => True⟩) := rfl
theorem w_enT {xs : List PV} {J : Itr} : EnuItr (.tup xs) h J = (J = enuI xs fun _ => True) := by simp [EnuItr]
theorem w_enF {xs : List PV} {J : Itr} : EnuItr (.fls xs) h J = (J = enuI xs fun _ => True) := by simp [EnuItr]
theorem w_enL {l : Nat} {J : Itr} : EnuItr (.loc l) h J = ∃ xs, h[l]? = some (.lst xs) ∧ J = enuI xs fun g => g[l]? = some (.lst xs) := by simp [EnuItr]
theorem w_exJ {J0 : Itr} {Q : Itr → Prop} : (∃ J, J = J0 ∧ Q J) = Q J0 := by simp
-- operations
theorem w_sub {x y : PV} : oSub.run x y h Q = ∃ i j, x = .int i ∧ y = .int j ∧ True ∧ Q (.int (i - j)) h := rfl
theorem w_mul {x y : PV} : oMulAll.run x y h Q = ((∃ i j, x = .int i ∧ y = .int j ∧ CMul i j ∧ Q (.int (i * j)) h) ∨ ∃ l k xs, x = .loc l ∧ y = .int k ∧ h[l]? = some (.lst xs) ∧ -(2 ^ 63) ≤ k ∧ k < 2 ^ 63 ∧ xs.length * k.toNat ≤ sizeLine ∧ New h (.lst (List.replicate k.toNat xs).flatten) fun l h2 => Q (.loc l) h2) := rfl
theorem w_mod {x y : PV} : oMod.run x y h Q = ∃ i j, x = .int i ∧ y = .int j ∧ 0 < j ∧ Q (.int (i % j)) h := rfl
theorem w_fdiv {x y : PV} : oFdiv.run x y h Q = ∃ i j, x = .int i ∧ y = .int j ∧ CDiv i j ∧ Q (.int (i / j)) h := rfl
theorem w_pow {x y : PV} : oPow.run x y h Q = ∃ i j, x = .int i ∧ y = .int j ∧ CPow i j ∧ Q (.int (i ^ j.toNat)) h := rfl
theorem w_lt {x y : PV} : oLt.run x y h Q = ∃ i j, x = .int i ∧ y = .int j ∧ True ∧ Q (.bl (decide (i < j))) h := rfl
theorem w_le {x y : PV} : oLe.run x y h Q = ∃ i j, x = .int i ∧ y = .int j ∧ True ∧ Q (.bl (decide (i ≤ j))) h := rfl
theorem w_gt {x y : PV} : oGt.run x y h Q = ∃ i j, x = .int i ∧ y = .int j ∧ True ∧ Q (.bl (decide (j < i))) h := rfl
theorem w_ge {x y : PV} : oGe.run x y h Q = ∃ i j, x = .int i ∧ y = .int j ∧ True ∧ Q (.bl (decide (j ≤ i))) h := rfl
theorem w_isN {x y : PV} : oIsN.run x y h Q = (y = .non ∧ Q (.bl (isNon x)) h) := rfl
theorem w_notN {x y : PV} : oNotN.run x y h Q = (y = .non ∧ Q (.bl (!isNon x)) h) := rfl
theorem w_addI {i j : Int} : oAdd.run (.int i) (.int j) h Q = Q (.int (i + j)) h := rfl
theorem w_addS {s t : Str} : oAdd.run (.str s) (.str t) h Q = (s.length + t.length ≤ sizeLine ∧ Q (.str (s ++ t)) h) := rfl
theorem w_addT {xs ys : List PV} : oAdd.run (.tup xs) (.tup ys) h Q = (xs.length + ys.length ≤ sizeLine ∧ Q (.tup (xs ++ ys)) h) := rfl
theorem w_addL {l k : Nat} : oAdd.run (.loc l) (.loc k) h Q = ∃ xs ys, h[l]? = some (.lst xs) ∧ h[k]? = some (.lst ys) ∧ xs.length + ys.length ≤ sizeLine ∧ New h (.lst (xs ++ ys)) fun l h2 => Q (.loc l) h2 := rfl
theorem w_ixT {xs : List PV} {y : PV} : oIx.run (.tup xs) y h Q = ∃ i v, y = .int i ∧ atI xs i = some v ∧ Q v h := rfl
theorem w_ixF {xs : List PV} {y : PV} : oIx.run (.fls xs) y h Q = ∃ i v, y = .int i ∧ atI xs i = some v ∧ Q v h := rfl
theorem w_ixL {l : Nat} {y : PV} : oIx.run (.loc l) y h Q = ((∃ xs i v, h[l]? = some (.lst xs) ∧ y = .int i ∧ atI xs i = some v ∧ Q v h) ∨ ∃ lk kvs k v, h[l]? = some (.dic lk kvs) ∧ dk? y = some k ∧ Kind kvs k ∧ dLook kvs k = some v ∧ Q v h) := rfl
-- built-ins
theorem w_lenT {xs : List PV} : nLen.run [.tup xs] h Q = Q (.int (xs.length : Nat)) h := by show nLenRun _ _ _ = _; simp [nLenRun, itemsOf]
theorem w_lenF {xs : List PV} : nLen.run [.fls xs] h Q = Q (.int (xs.length : Nat)) h := by show nLenRun _ _ _ = _; simp [nLenRun, itemsOf]
theorem w_lenTF {xs : List PV} : nLen.run [.ftp xs] h Q = Q (.int (xs.length : Nat)) h := by show nLenRun _ _ _ = _; simp [nLenRun, itemsOf]
theorem w_lenS {z : Str} : nLen.run [.str z] h Q = (z.length ≤ sizeLine ∧ Q (.int (z.length : Nat)) h) := by show nLenRun _ _ _ = _; simp [nLenRun, itemsOf]
theorem w_lenL {l : Nat} : nLen.run [.loc l] h Q = ((∃ xs, h[l]? = some (.lst xs) ∧ Q (.int (xs.length : Nat)) h) ∨ ∃ lk kvs, h[l]? = some (.dic lk kvs) ∧ Q (.int (kvs.length : Nat)) h) := by
  show nLenRun _ _ _ = _
  have e : ∀ ys, itemsOf h (.loc l) = some ys ↔ h[l]? = some (.lst ys) := by
    intro ys
    simp only [itemsOf]
    cases h[l]? with
    | none => simp
    | some c => cases c <;> simp
  simp [nLenRun, e]
theorem w_f1 {f : PV → Option PV} {xs : List PV} : (nF1 f).run xs h Q = ∃ x y, xs = [x] ∧ f x = some y ∧ Q y h := rfl
theorem w_i2 {f : Int → Int → Int} {xs : List PV} : (nI2 f).run xs h Q = ∃ i j, xs = [.int i, .int j] ∧ Q (.int (f i j)) h := rfl
theorem w_LI {P : List Int → Prop} {f : List Int → Int} {xs : List PV} : (nLI P f).run xs h Q = ∃ (x : PV) (ns : List Int), xs = [x] ∧ isTupPV x = false ∧ itemsOf h x = some (ns.map PV.int) ∧ P ns ∧ Q (.int (f ns)) h := rfl
theorem w_LB {f : List Bool → Bool} {xs : List PV} : (nLB f).run xs h Q = ∃ (x : PV) (bs : List Bool), xs = [x] ∧ isTupPV x = false ∧ itemsOf h x = some (bs.map PV.bl) ∧ Q (.bl (f bs)) h := rfl
theorem w_sort {xs : List PV} : nSort.run xs h Q = ∃ (x : PV) (ns : List Int), xs = [x] ∧ isTupPV x = false ∧ itemsOf h x = some (List.map PV.int ns) ∧ ns.length < 64 ∧ ∀ ns' : List Int, ns'.Perm ns → ns'.Pairwise (· ≤ ·) → New h (.lst (ns'.map PV.int)) fun l h2 => Q (.loc l) h2 := rfl
theorem items_loc {l : Nat} {ys : List PV} : itemsOf h (.loc l) = some ys ↔ h[l]? = some (.lst ys) := by
  simp only [itemsOf]
  cases h[l]? with
  | none => simp
  | some c => cases c <;> simp
theorem w_listT {ys : List PV} : nList.run [.tup ys] h Q = New h (.lst ys) fun l h2 => Q (.loc l) h2 := by
  refine propext ⟨fun ⟨x, zs, e, a, q⟩ => ?_, fun q => ⟨_, ys, rfl, rfl, q⟩⟩
  cases e; cases a; exact q
theorem w_listF {ys : List PV} : nList.run [.fls ys] h Q = New h (.lst ys) fun l h2 => Q (.loc l) h2 := by
  refine propext ⟨fun ⟨x, zs, e, a, q⟩ => ?_, fun q => ⟨_, ys, rfl, rfl, q⟩⟩
  cases e; cases a; exact q
theorem w_listL {l : Nat} : nList.run [.loc l] h Q = ∃ ys, h[l]? = some (.lst ys) ∧ New h (.lst ys) fun l h2 => Q (.loc l) h2 := by
  refine propext ⟨fun ⟨x, zs, e, a, q⟩ => ?_, fun ⟨ys, a, q⟩ => ⟨_, ys, rfl, items_loc.mpr a, q⟩⟩
  cases e; exact ⟨zs, items_loc.mp a, q⟩
theorem w_tupT {ys : List PV} : nTuple.run [.tup ys] h Q = Q (.tup ys) h := by
  refine propext ⟨fun ⟨x, zs, e, a, q⟩ => ?_, fun q => ⟨_, ys, rfl, rfl, q⟩⟩
  cases e; exact q
theorem w_tupF {ys : List PV} : nTuple.run [.fls ys] h Q = Q (.tup ys) h := by
  refine propext ⟨fun ⟨x, zs, e, a, q⟩ => ?_, fun q => ⟨_, ys, rfl, rfl, q⟩⟩
  cases e; cases a; exact q
theorem w_tupL {l : Nat} : nTuple.run [.loc l] h Q = ∃ ys, h[l]? = some (.lst ys) ∧ Q (.tup ys) h := by
  refine propext ⟨fun ⟨x, zs, e, a, q⟩ => ?_, fun ⟨ys, a, q⟩ => ⟨_, ys, rfl, items_loc.mpr a, q⟩⟩
  cases e; exact ⟨zs, items_loc.mp a, q⟩
theorem w_tupleF {xs : List PV} : nTupleF.run xs h Q = ∃ (x : PV) (ys : List PV), xs = [x] ∧ isTupPV x = false ∧ itemsOf h x = some ys ∧ Q (.ftp ys) h := rfl
theorem w_dictP {xs : List PV} : nDictP.run xs h Q = ∃ (l : Nat) (ps : List (Key × PV)), xs = [.loc l] ∧ h[l]? = some (.lst (ps.map fun p => .tup [keyPV p.1, p.2])) ∧ New h (.dic false (ps.foldl (fun acc p => dPut acc (.inl p.1) p.2) [])) fun l h2 => Q (.loc l) h2 := rfl
theorem w_isi {kt : List (Tag × Tag × Bool)} {ci ce : List Str} {xs : List PV} : (nIsi kt ci ce).run xs h Q = ∃ x c t b, xs = [x, c] ∧ tagPV h x = some t ∧ tagOk ci ce h x ∧ ((∃ u, clsPV c = some u ∧ (t, u, b) ∈ kt) ∨ ∃ cs us, c = .tup cs ∧ cs.mapM clsPV = some us ∧ KAns kt t us b) ∧ Q (.bl b) h := rfl
theorem w_tupIx {A B : AE} : (aTupIx A B).run e h Q R = A.run e h (fun x h1 => ∃ xs, x = .ftp xs ∧ B.run e h1 (fun y h2 => TupIx xs y h2 Q) R) R := rfl
theorem w_minD {A : AA} : (aMinD A).run e h Q R = A.run e h (fun xs h1 => ∃ (x : PV) (ys : List PV) (n : Nat) (d : PyData) (ds : List PyData), xs = [x] ∧ isTupPV x = false ∧ itemsOf h1 x = some ys ∧ ys.mapM (dat h1 n) = some (d :: ds) ∧ PySem.W.AlikeAll (d :: ds) ∧ PyData.canLayAll0 (d :: ds) = true ∧ PyData.depthAll (d :: ds) ≤ 60 ∧
    ∀ (i : Nat) (y : PV), ys[i]? = some y → (d :: ds)[i]? = some (PySem.W.minD d ds) → Q y h1) R := rfl
theorem w_lenSet {A : AE} : (aLenSet A).run e h Q R = A.run e h (fun x h1 => ∃ (ns : List Int), isTupPV x = false ∧ itemsOf h1 x = some (ns.map PV.int) ∧ ns.length ≤ 4000 ∧ Q (.int (PyN.manyI ns : Nat)) h1) R := rfl
-- methods
theorem w_append {x : PV} {xs : List PV} : mAppend.run x xs h Q = ∃ l zs y, x = .loc l ∧ xs = [y] ∧ h[l]? = some (.lst zs) ∧ zs.length < sizeLine ∧ Put h l (.lst (zs ++ [y])) fun h2 => Q .non h2 := rfl
theorem w_popAt {x : PV} {xs : List PV} : mPopAt.run x xs h Q = ∃ l zs i k y, x = .loc l ∧ xs = [.int i] ∧ h[l]? = some (.lst zs) ∧ (-(2 ^ 63) ≤ i ∧ i < 2 ^ 63) ∧ seqIndex? i zs.length = some k ∧ zs[k]? = some y ∧ Put h l (.lst (zs.eraseIdx k)) fun h2 => Q y h2 := rfl
theorem w_get {x : PV} {xs : List PV} : mGet.run x xs h Q = ∃ l kvs y k, x = .loc l ∧ h[l]? = some (.dic false kvs) ∧ dk? y = some k ∧ Kind kvs k ∧ ((xs = [y] ∧ Q ((dLook kvs k).getD .non) h) ∨ ∃ z, xs = [y, z] ∧ Q ((dLook kvs k).getD z) h) := rfl
theorem w_setd {x : PV} {xs : List PV} : mSetd.run x xs h Q = ∃ l kvs y z k, x = .loc l ∧ xs = [y, z] ∧ h[l]? = some (.dic false kvs) ∧ dk? y = some (.inl k) ∧ Kind kvs (.inl k) ∧ kvs.length < sizeLine ∧
    ((∃ v, dLook kvs (.inl k) = some v ∧ Q v h) ∨ (dLook kvs (.inl k) = none ∧ Put h l (.dic false (dPut kvs (.inl k) z)) fun h2 => Q z h2)) := rfl
theorem w_recvL {l : Nat} {tn : String} : RecvOk tn (.loc l) h = ((tn = "list" ∧ ∃ xs, h[l]? = some (.lst xs)) ∨ (tn = "dict" ∧ ∃ kvs, h[l]? = some (.dic false kvs))) := rfl
theorem w_itT {xs : List PV} : itemsOf h (.tup xs) = some xs := rfl
theorem w_itF {xs : List PV} : itemsOf h (.fls xs) = some xs := rfl
theorem w_itTF {xs : List PV} : itemsOf h (.ftp xs) = some xs := rfl
theorem w_itL {l : Nat} : itemsOf h (.loc l) = match h[l]? with
    | some (.lst xs) => some xs
    | _ => none := rfl
theorem w_itI {i : Int} : itemsOf h (.int i) = none := rfl
theorem w_itN : itemsOf h .non = none := rfl
theorem w_itB {i : Bool} : itemsOf h (.bl i) = none := rfl
theorem w_itStr {s : Str} : itemsOf h (.str s) = none := rfl
theorem w_fIntI {i : Int} : fInt (.int i) = some (.int i) := rfl
theorem w_fIntB {k : Bool} : fInt (.bl k) = some (.int (if k then 1 else 0)) := rfl
theorem w_fAbs {i : Int} : fAbs (.int i) = some (.int (if i < 0 then -i else i)) := rfl
theorem w_lkm {a b : PV} : ((["own_moves", "own_words"] : List Str).zip [a, b]).lookup ("own_moves" : Str) = some a := rfl
theorem w_lkw {a b : PV} : ((["own_moves", "own_words"] : List Str).zip [a, b]).lookup ("own_words" : Str) = some b := rfl
theorem w_ip1 {a : PV} : insPut "own_moves" a [] [] = (([("own_moves" : Str)], [a]) : List Str × List PV) := rfl
theorem w_ip2 {a b : PV} : insPut "own_words" b ["own_moves"] [a] = ((["own_moves", "own_words"], [a, b]) : List Str × List PV) := rfl
theorem w_itpL {l : Nat} : isTupPV (.loc l) = false := rfl
theorem w_itpF {xs : List PV} : isTupPV (.fls xs) = false := rfl
theorem w_itpT {xs : List PV} : isTupPV (.tup xs) = true := rfl
theorem w_itpTF {xs : List PV} : isTupPV (.ftp xs) = true := rfl
theorem w_dkI {i : Int} : dk? (.int i) = some (.inl (.inl i)) := rfl
theorem w_dkS {s : Str} : dk? (.str s) = some (.inl (.inr s)) := rfl
theorem w_dkT {xs : List PV} : dk? (.tup xs) = (xs.mapM key?).map .inr := rfl
theorem w_kind0 {k : DK} : Kind [] k = True := by simp [Kind]
theorem w_kindC {a : DK} {v : PV} {r : List (DK × PV)} {k : DK} : Kind ((a, v) :: r) k = (a.isLeft = k.isLeft ∧ Kind r k) := by simp [Kind]
theorem w_eqI {i j : Int} : oEq.run (.int i) (.int j) h Q = Q (.bl (decide (i = j))) h := by
  refine propext ⟨fun q => ?_, fun q => ⟨1, .int i, .int j, rfl, rfl, rfl, rfl, q⟩⟩
  obtain ⟨n, d, e, a, b, _, _, q⟩ := q
  cases n with
  | zero => cases a
  | succ n => cases a; cases b; exact q
theorem w_neI {i j : Int} : oNe.run (.int i) (.int j) h Q = Q (.bl (!decide (i = j))) h := by
  refine propext ⟨fun q => ?_, fun q => ⟨1, .int i, .int j, rfl, rfl, rfl, rfl, q⟩⟩
  obtain ⟨n, d, e, a, b, _, _, q⟩ := q
  cases n with
  | zero => cases a
  | succ n => cases a; cases b; exact q
theorem w_isNI {i : Int} : PyA.isNon (.int i) = false := rfl
theorem w_isNN : PyA.isNon .non = true := rfl
theorem w_isNB {b : Bool} : PyA.isNon (.bl b) = false := rfl
theorem w_isNS {s : Str} : PyA.isNon (.str s) = false := rfl
theorem w_isNT {xs : List PV} : PyA.isNon (.tup xs) = false := rfl
theorem w_isNTF {xs : List PV} : PyA.isNon (.ftp xs) = false := rfl
theorem w_isNF {xs : List PV} : PyA.isNon (.fls xs) = false := rfl
theorem w_isNL {l : Nat} : PyA.isNon (.loc l) = false := rfl
theorem w_isNX {c : Str} {fs : List Str} {vs : List PV} : PyA.isNon (.exn c fs vs) = false := rfl
theorem w_go {B : AS} (q : B.run D e h) : Later B D e h := q
theorem w_true {P : Prop} : (if True then P else False) = P := by simp
-- defs
theorem w_F {np n : Nat} {B : AS} {xs : List PV} : (mkF np n B).run xs h Q R = (xs.length = np ∧ B.run { nx := fun _ h' => Q .non h', rt := Q, bk := fun _ _ => False, ct := fun _ _ => False, ex := fun x _ h' => R x h' } (xs.map some ++ List.replicate (n - xs.length) none) h) := rfl
theorem w_L {np n : Nat} {ys : List PV} {B : AE} {xs : List PV} : (mkL np n ys B).run xs h Q R = (xs.length = np ∧ B.run ((xs ++ ys).map some ++ List.replicate (n - (xs ++ ys).length) none) h Q R) := rfl
end
end PyA
end
section
set_option Elab.async false
set_option linter.all false
set_option maxRecDepth 100000
set_option maxHeartbeats 4000000
/-! PyV2: loops and comprehensions, by what holds between two turns; equality of plain data -/
namespace PyA
open PySem L2
section
variable {g : AG} {B : AS} {ok : Hh → Prop} {D : AD} {e : Ev} {h : Hh}
theorem for_inv {α : Type} {f : α → PV} {xs : List α} (I : List α → Ev → Hh → Prop) (h0 : I [] e h) (hok : ∀ d e h, I d e h → ok h)
    (step : ∀ d x r, xs = d ++ x :: r → ∀ e h, I d e h → g.run (f x) e h fun e1 h1 => B.run { D with nx := I (d ++ [x]), ct := I (d ++ [x]), bk := D.nx } e1 h1)
    (fin : ∀ e h, I xs e h → D.nx e h) : loopF g B ok D (xs.map f) e h := by
  have : ∀ (r d : List α) (e : Ev) (h : Hh), xs = d ++ r → I d e h → loopF g B ok D (r.map f) e h := by
    intro r
    induction r with
    | nil =>
      intro d e h hx i
      rw [List.append_nil] at hx
      subst hx
      exact ⟨hok _ e h i, fin e h i⟩
    | cons x r ih =>
      intro d e h hx i
      refine ⟨hok d e h i, g.mono (step d x r hx e h i) fun e1 h1 q => B.mono q ?_⟩
      have hx' : xs = (d ++ [x]) ++ r := by rw [hx]; simp
      exact ⟨fun e2 h2 q2 => ih _ e2 h2 hx' q2, fun _ _ q => q, fun _ _ q => q, fun e2 h2 q2 => ih _ e2 h2 hx' q2, fun _ _ _ q => q⟩
  exact this xs [] e h rfl h0
theorem for_rng {lo : Int} {n : Nat} (I : Nat → Ev → Hh → Prop) (h0 : I 0 e h)
    (step : ∀ i, i < n → ∀ e h, I i e h → g.run (.int (lo + (i : Nat))) e h fun e1 h1 => B.run { D with nx := I (i + 1), ct := I (i + 1), bk := D.nx } e1 h1)
    (fin : ∀ e h, I n e h → D.nx e h) : loopF g B (rngI lo n).ok D (rngI lo n).items e h := by
  refine for_inv (xs := List.range n) (f := fun i : Nat => PV.int (lo + (i : Nat))) (fun d => I d.length) h0 (fun _ _ _ _ => trivial) ?_ ?_
  · intro d x r hx e h i
    have h1 : x = d.length ∧ d.length < n := by
      have h2 := congrArg (fun l => l[d.length]?) hx
      simp only [List.getElem?_append_right (Nat.le_refl _), Nat.sub_self, List.getElem?_cons_zero] at h2
      obtain ⟨a, b⟩ := List.getElem?_eq_some_iff.mp h2
      simp at a b
      exact ⟨b.symm, a⟩
    have := step d.length h1.2 e h i
    rw [← h1.1] at this
    simp only [List.length_append, List.length_singleton]
    rw [← h1.1]
    exact this
  · intro e h i
    simp only [List.length_range] at i
    exact fin e h i
/-- a walk by number and item -/
theorem for_enum {α : Type} {f : α → PV} {xs : List α} (I : List α → Ev → Hh → Prop) (h0 : I [] e h) (hok : ∀ d e h, I d e h → ok h)
    (step : ∀ d x r, xs = d ++ x :: r → ∀ e h, I d e h → g.run (.tup [.int (d.length : Nat), f x]) e h fun e1 h1 => B.run { D with nx := I (d ++ [x]), ct := I (d ++ [x]), bk := D.nx } e1 h1)
    (fin : ∀ e h, I xs e h → D.nx e h) : loopF g B (enuI (xs.map f) ok).ok D (enuI (xs.map f) ok).items e h := by
  have e1 : (enuI (xs.map f) ok).items = (xs.zipIdx).map fun p => PV.tup [.int (p.2 : Nat), f p.1] := by
    show List.map _ (List.zipIdx (xs.map f)) = _
    rw [List.zipIdx_map, List.map_map]
    rfl
  rw [e1]
  refine for_inv (fun d => I (d.map (·.1))) h0 (fun d e h i => hok _ e h i) ?_ ?_
  · intro d x r hx e h i
    have h2 := congrArg (fun l => l[d.length]?) hx
    simp only [List.getElem?_append_right (Nat.le_refl _), Nat.sub_self, List.getElem?_cons_zero] at h2
    rw [List.getElem?_zipIdx] at h2
    have h3 : x.2 = d.length := by
      cases h4 : xs[d.length]? with
      | none => rw [h4] at h2; cases h2
      | some y => rw [h4] at h2; simp at h2; rw [← h2]
    have hx' : xs = d.map (·.1) ++ x.1 :: r.map (·.1) := by
      have := congrArg (List.map (·.1)) hx
      simpa using this
    have := step (d.map (·.1)) x.1 (r.map (·.1)) hx' e h i
    rw [List.length_map, ← h3] at this
    simpa using this
  · intro e h i
    simp at i
    exact fin e h i
theorem while_inv {C : AT} (I : Nat → Ev → Hh → Prop) {n : Nat} (h0 : I n e h)
    (step : ∀ n e h, I n e h → C.run e h (fun b h1 => if b = true then B.run { D with nx := fun e h => ∃ m, m < n ∧ I m e h, ct := fun e h => ∃ m, m < n ∧ I m e h, bk := D.nx } e h1 else D.nx e h1) (fun x h' => D.ex x e h')) : (sWhile C B).run D e h := by
  have : ∀ n, ∀ e h, I n e h → ∃ k, ∀ j, k ≤ j → whileN C B D j e h := by
    intro n
    induction n using Nat.strongRecOn with
    | _ n ih =>
      intro e h i
      refine ⟨n + 1, fun j hj => ?_⟩
      obtain ⟨j, rfl⟩ : ∃ j', j = j' + 1 := ⟨j - 1, by omega⟩
      -- a bound for all ways: by the measure
      have bnd : ∀ m, ∀ e h, I m e h → ∀ j, m < j → whileN C B D j e h := by
        intro m
        induction m using Nat.strongRecOn with
        | _ m ihm =>
          intro e h i j hj
          obtain ⟨j, rfl⟩ : ∃ j', j = j' + 1 := ⟨j - 1, by omega⟩
          refine C.mono (step m e h i) (fun b h1 q => ?_) fun _ _ q => q
          cases b with
          | false => exact q
          | true => exact B.mono q ⟨fun e2 h2 ⟨m', hm, i2⟩ => ihm m' hm e2 h2 i2 j (by omega), fun _ _ q => q, fun _ _ q => q, fun e2 h2 ⟨m', hm, i2⟩ => ihm m' hm e2 h2 i2 j (by omega), fun _ _ _ q => q⟩
      exact bnd n e h i _ (by omega)
  obtain ⟨k, hk⟩ := this n e h h0
  exact ⟨k, hk k (Nat.le_refl _)⟩
end
/-! ### comprehensions -/
section
variable {g : AG} {C : AT} {A : AE} {ok : Hh → Prop} {e : Ev} {Q : QV}
/-- any: what was made so far -/
theorem lc_own {α : Type} {f : α → PV} {xs : List α} {h0 h : Hh} {D : Nat} {L : List (Nat × Cell)} (O : Own h0 h ((D, .lst []) :: L)) (P : List α → List PV → Prop) (p0 : P [] []) (hl : xs.length ≤ sizeLine) (hok : ∀ acc h', Own h0 h' ((D, .lst acc) :: L) → ok h')
    (step : ∀ d x r acc h', xs = d ++ x :: r → P d acc → Own h0 h' ((D, .lst acc) :: L) → g.run (f x) e h' fun e2 h2 => C.run e2 h2 (fun b h3 => if b = true then A.run e2 h3 (fun y h4 => Own h0 h4 ((D, .lst acc) :: L) ∧ P (d ++ [x]) (acc ++ [y])) NX else Own h0 h3 ((D, .lst acc) :: L) ∧ P (d ++ [x]) acc) NX)
    (fin : ∀ acc h', Own h0 h' ((D, .lst acc) :: L) → P xs acc → Q (.loc D) h') : compL g C A ok e D Q (xs.map f) h := by
  have : ∀ (r d : List α) (acc : List PV) (h : Hh), xs = d ++ r → acc.length ≤ d.length → P d acc → Own h0 h ((D, .lst acc) :: L) → compL g C A ok e D Q (r.map f) h := by
    intro r
    induction r with
    | nil =>
      intro d acc h hx _ p O
      rw [List.append_nil] at hx
      subst hx
      exact ⟨hok _ _ O, fin _ _ O p⟩
    | cons x r ih =>
      intro d acc h hx hd p O
      have hx' : xs = (d ++ [x]) ++ r := by rw [hx]; simp
      have hlen : d.length < xs.length := by rw [hx]; simp
      refine ⟨hok _ _ O, g.mono (step d x r acc h hx p O) fun e2 h2 q => C.mono q (fun b h3 q3 => ?_) fun _ _ z => z⟩
      cases b with
      | true =>
        refine A.mono q3 (fun y h4 ⟨O4, p4⟩ => ⟨acc, O4.f1, by omega, ?_⟩) fun _ _ z => z
        exact ih (d ++ [x]) (acc ++ [y]) _ hx' (by simp; omega) p4 (O4.put (i := 0) rfl _)
      | false => exact ih (d ++ [x]) acc _ hx' (by simp; omega) q3.2 q3.1
  exact this xs [] [] h rfl (Nat.le_refl _) p0 O
theorem lc_raw {α : Type} {f : α → PV} {xs : List α} {h : Hh} {D : Nat} (I : List α → List PV → Hh → Prop) (i0 : I [] [] h) (hl : xs.length ≤ sizeLine) (hok : ∀ d acc h', I d acc h' → ok h') (ll : ∀ d acc h', I d acc h' → acc.length ≤ d.length)
    (step : ∀ d x r acc h', xs = d ++ x :: r → I d acc h' → g.run (f x) e h' fun e2 h2 => C.run e2 h2 (fun b h3 => if b = true then A.run e2 h3 (fun y h4 => h4[D]? = some (.lst acc) ∧ I (d ++ [x]) (acc ++ [y]) (h4.set D (.lst (acc ++ [y])))) NX else I (d ++ [x]) acc h3) NX)
    (fin : ∀ acc h', I xs acc h' → Q (.loc D) h') : compL g C A ok e D Q (xs.map f) h := by
  have : ∀ (r d : List α) (acc : List PV) (h : Hh), xs = d ++ r → I d acc h → compL g C A ok e D Q (r.map f) h := by
    intro r
    induction r with
    | nil =>
      intro d acc h hx i
      rw [List.append_nil] at hx
      subst hx
      exact ⟨hok _ _ _ i, fin _ _ i⟩
    | cons x r ih =>
      intro d acc h hx i
      have hx' : xs = (d ++ [x]) ++ r := by rw [hx]; simp
      have hlen : d.length < xs.length := by rw [hx]; simp
      have hla := ll _ _ _ i
      refine ⟨hok _ _ _ i, g.mono (step d x r acc h hx i) fun e2 h2 q => C.mono q (fun b h3 q3 => ?_) fun _ _ z => z⟩
      cases b with
      | true => exact A.mono q3 (fun y h4 ⟨a, i4⟩ => ⟨acc, a, by omega, ih _ _ _ hx' i4⟩) fun _ _ z => z
      | false => exact ih (d ++ [x]) acc _ hx' q3
  exact this xs [] [] h rfl i0
/-- some of the items, each by itself -/
theorem lc_fm {α : Type} {f : α → PV} {xs : List α} {h0 h : Hh} {D : Nat} {L : List (Nat × Cell)} (O : Own h0 h ((D, .lst []) :: L)) (p : α → Bool) (out : α → PV) (hl : xs.length ≤ sizeLine) (hok : ∀ acc h', Own h0 h' ((D, .lst acc) :: L) → ok h')
    (step : ∀ x, x ∈ xs → ∀ acc h', Own h0 h' ((D, .lst acc) :: L) → g.run (f x) e h' fun e2 h2 => C.run e2 h2 (fun b h3 => b = p x ∧ Ext h' h3 ∧ (p x = true → A.run e2 h3 (fun y h4 => y = out x ∧ Ext h' h4) NX)) NX)
    (fin : ∀ h', Own h0 h' ((D, .lst ((xs.filter p).map out)) :: L) → Q (.loc D) h') : compL g C A ok e D Q (xs.map f) h := by
  refine lc_own O (fun d acc => acc = (d.filter p).map out) rfl hl hok ?_ ?_
  · intro d x r acc h' hx hp O'
    refine g.mono (step x (by rw [hx]; simp) acc h' O') fun e2 h2 q => C.mono q (fun b h3 q3 => ?_) fun _ _ z => z
    obtain ⟨e1, E, q4⟩ := q3
    cases b with
    | true =>
      refine A.mono (q4 e1.symm) (fun y h4 ⟨ey, E4⟩ => ⟨O'.call E4, ?_⟩) fun _ _ z => z
      rw [List.filter_append, List.map_append, hp, ey]
      simp [← e1]
    | false =>
      refine ⟨O'.call E, ?_⟩
      rw [List.filter_append, List.map_append, hp]
      simp [← e1]
  · intro acc h' O' hp
    subst hp
    exact fin h' O'
theorem lc_map {α : Type} {f : α → PV} {xs : List α} {h0 h : Hh} {D : Nat} {L : List (Nat × Cell)} (O : Own h0 h ((D, .lst []) :: L)) (out : α → PV) (hl : xs.length ≤ sizeLine) (hok : ∀ acc h', Own h0 h' ((D, .lst acc) :: L) → ok h')
    (step : ∀ x, x ∈ xs → ∀ acc h', Own h0 h' ((D, .lst acc) :: L) → g.run (f x) e h' fun e2 h2 => C.run e2 h2 (fun b h3 => b = true ∧ Ext h' h3 ∧ A.run e2 h3 (fun y h4 => y = out x ∧ Ext h' h4) NX) NX)
    (fin : ∀ h', Own h0 h' ((D, .lst (xs.map out)) :: L) → Q (.loc D) h') : compL g C A ok e D Q (xs.map f) h := by
  refine lc_fm O (fun _ => true) out hl hok (fun x hx acc h' O' => g.mono (step x hx acc h' O') fun e2 h2 q => C.mono q (fun b h3 ⟨a, E, q⟩ => ⟨a, E, fun _ => q⟩) fun _ _ z => z) ?_
  intro h' O'
  rw [List.filter_eq_self.mpr (fun _ _ => rfl)] at O'
  exact fin h' O'
/-- dict comprehensions -/
theorem dc_own {α : Type} {B : AE} {f : α → PV} {xs : List α} {h0 h : Hh} {D : Nat} {L : List (Nat × Cell)} (O : Own h0 h ((D, .dik []) :: L)) (P : List α → List (DK × PV) → Prop) (p0 : P [] []) (hl : xs.length < sizeLine) (hok : ∀ acc h', Own h0 h' ((D, .dik acc) :: L) → ok h') (lp : ∀ d acc, P d acc → acc.length ≤ d.length)
    (step : ∀ d x r acc h', xs = d ++ x :: r → P d acc → Own h0 h' ((D, .dik acc) :: L) → g.run (f x) e h' fun e2 h2 => C.run e2 h2 (fun b h3 => if b = true then A.run e2 h3 (fun y h4 => B.run e2 h4 (fun z h5 => ∃ k, dk? y = some (.inl k) ∧ Own h0 h5 ((D, .dik acc) :: L) ∧ P (d ++ [x]) (dPut acc (.inl k) z)) NX) NX else Own h0 h3 ((D, .dik acc) :: L) ∧ P (d ++ [x]) acc) NX)
    (fin : ∀ acc h', Own h0 h' ((D, .dic false acc) :: L) → P xs acc → Q (.loc D) h') : compD g C A B ok e D Q (xs.map f) h := by
  have : ∀ (r d : List α) (acc : List (DK × PV)) (h : Hh), xs = d ++ r → P d acc → Own h0 h ((D, .dik acc) :: L) → compD g C A B ok e D Q (r.map f) h := by
    intro r
    induction r with
    | nil =>
      intro d acc h hx p O
      rw [List.append_nil] at hx
      subst hx
      exact ⟨hok _ _ O, acc, O.f1, fin _ _ (O.put (i := 0) rfl _) p⟩
    | cons x r ih =>
      intro d acc h hx p O
      have hx' : xs = (d ++ [x]) ++ r := by rw [hx]; simp
      have hlen : d.length < xs.length := by rw [hx]; simp
      have hla := lp d acc p
      refine ⟨hok _ _ O, g.mono (step d x r acc h hx p O) fun e2 h2 q => C.mono q (fun b h3 q3 => ?_) fun _ _ z => z⟩
      cases b with
      | true =>
        refine A.mono q3 (fun y h4 q4 => B.mono q4 (fun z h5 ⟨k, hk, O5, p5⟩ => ⟨acc, k, hk, O5.f1, by omega, ?_⟩) fun _ _ z => z) fun _ _ z => z
        exact ih (d ++ [x]) _ _ hx' p5 (O5.put (i := 0) rfl _)
      | false => exact ih (d ++ [x]) acc _ hx' q3.2 q3.1
  exact this xs [] [] h rfl p0 O
end
/-! ### plain data: numbers, texts, None, tuples of these -/
mutual
def plain : PV → Bool
  | .non => true
  | .int _ => true
  | .tup xs => plainAll xs
  | .ftp xs => plainAll xs
  | .fls xs => plainAll xs
  | _ => false
def plainAll : List PV → Bool
  | [] => true
  | x :: xs => plain x && plainAll xs
end
mutual
def toD : PV → PyData
  | .int i => .int i
  | .tup xs => .tuple (toDs xs)
  | .ftp xs => .tuple (toDs xs)
  | .fls xs => .list (toDs xs)
  | _ => .none
def toDs : List PV → List PyData
  | [] => []
  | x :: xs => toD x :: toDs xs
end
mutual
def bare : PV → PV
  | .ftp xs => .tup (bares xs)
  | .tup xs => .tup (bares xs)
  | .fls xs => .fls (bares xs)
  | x => x
def bares : List PV → List PV
  | [] => []
  | x :: xs => bare x :: bares xs
end
mutual
def pdep : PV → Nat
  | .tup xs => pdeps xs + 1
  | .ftp xs => pdeps xs + 1
  | .fls xs => pdeps xs + 1
  | _ => 1
def pdeps : List PV → Nat
  | [] => 0
  | x :: xs => max (pdep x) (pdeps xs)
end
theorem toDs_map : ∀ xs : List PV, toDs xs = xs.map toD
  | [] => rfl
  | x :: xs => by rw [toDs, toDs_map xs]; rfl
theorem mapM_dat {h : Hh} {n : Nat} : ∀ {xs : List PV}, (∀ x ∈ xs, dat h n x = some (toD x)) → xs.mapM (dat h n) = some (toDs xs)
  | [], _ => rfl
  | x :: xs, H => by
    rw [List.mapM_cons, H x (by simp), mapM_dat (xs := xs) fun y hy => H y (by simp [hy])]
    rfl
mutual
theorem dat_plain {h : Hh} : ∀ (n : Nat) (x : PV), plain x = true → pdep x ≤ n → dat h n x = some (toD x)
  | 0, x, _, hd => by cases x <;> simp [pdep] at hd
  | n + 1, .non, _, _ => rfl
  | n + 1, .int _, _, _ => rfl
  | n + 1, .tup xs, hp, hd => by
    have h1 := dat_plains (h := h) n xs (by simpa [plain] using hp) (by simp [pdep] at hd; omega)
    show (xs.mapM (dat h n)).map _ = _
    rw [mapM_dat h1]; rfl
  | n + 1, .ftp xs, hp, hd => by
    have h1 := dat_plains (h := h) n xs (by simpa [plain] using hp) (by simp [pdep] at hd; omega)
    show (xs.mapM (dat h n)).map _ = _
    rw [mapM_dat h1]; rfl
  | n + 1, .fls xs, hp, hd => by
    have h1 := dat_plains (h := h) n xs (by simpa [plain] using hp) (by simp [pdep] at hd; omega)
    show (xs.mapM (dat h n)).map _ = _
    rw [mapM_dat h1]; rfl
theorem dat_plains {h : Hh} : ∀ (n : Nat) (xs : List PV), plainAll xs = true → pdeps xs ≤ n → ∀ x ∈ xs, dat h n x = some (toD x)
  | n, [], _, _, x, hx => by simp at hx
  | n, y :: xs, hp, hd, x, hx => by
    have hp' : plain y = true ∧ plainAll xs = true := by simpa [plainAll] using hp
    have hd' : pdep y ≤ n ∧ pdeps xs ≤ n := by simp [pdeps] at hd; omega
    rcases List.mem_cons.mp hx with e | hx
    · rw [e]; exact dat_plain n y hp'.1 hd'.1
    · exact dat_plains n xs hp'.2 hd'.2 x hx
end
mutual
theorem shape_plain : ∀ x : PV, plain x = true → (toD x).canLay0 = true ∧ (toD x).depth ≤ pdep x
  | .non, _ => by simp [toD, PyData.canLay0, PyData.depth, pdep]
  | .int _, _ => by simp [toD, PyData.canLay0, PyData.depth, pdep]
  | .tup xs, hp => by
    have := shape_plains xs (by simpa [plain] using hp)
    simp only [toD, PyData.canLay0, PyData.depth, pdep]
    exact ⟨this.1, by omega⟩
  | .ftp xs, hp => by
    have := shape_plains xs (by simpa [plain] using hp)
    simp only [toD, PyData.canLay0, PyData.depth, pdep]
    exact ⟨this.1, by omega⟩
  | .fls xs, hp => by
    have := shape_plains xs (by simpa [plain] using hp)
    simp only [toD, PyData.canLay0, PyData.depth, pdep]
    exact ⟨this.1, by omega⟩
theorem shape_plains : ∀ xs : List PV, plainAll xs = true → PyData.canLayAll0 (toDs xs) = true ∧ PyData.depthAll (toDs xs) ≤ pdeps xs
  | [], _ => by simp [toDs, PyData.canLayAll0, PyData.depthAll, pdeps]
  | x :: xs, hp => by
    have hp' : plain x = true ∧ plainAll xs = true := by simpa [plainAll] using hp
    have h1 := shape_plain x hp'.1
    have h2 := shape_plains xs hp'.2
    simp only [toDs, PyData.canLayAll0, PyData.depthAll, pdeps, h1.1, h2.1]
    exact ⟨rfl, by omega⟩
end
theorem shaped_plain {x : PV} (hp : plain x = true) (hd : pdep x ≤ 64) : SeqAt.shaped (toD x) = true := by
  have := shape_plain x hp
  unfold SeqAt.shaped
  rw [this.1, decide_eq_true (by omega)]; rfl
mutual
theorem eqv_plain : ∀ (x y : PV), plain x = true → plain y = true → (PyData.eqv (toD x) (toD y) = true ↔ bare x = bare y)
  | .non, y, _, hy => by cases y <;> simp [plain] at hy <;> simp [toD, PyData.eqv, bare]
  | .int i, y, _, hy => by cases y <;> simp [plain] at hy <;> simp [toD, PyData.eqv, bare]
  | .tup xs, y, hx, hy => by
    have hx' : plainAll xs = true := by simpa [plain] using hx
    cases y <;> simp [plain] at hy <;> simp only [toD, PyData.eqv, bare, reduceCtorEq, Bool.false_eq_true]
    · rw [eqv_plains xs _ hx' hy]; simp
    · rw [eqv_plains xs _ hx' hy]; simp
  | .ftp xs, y, hx, hy => by
    have hx' : plainAll xs = true := by simpa [plain] using hx
    cases y <;> simp [plain] at hy <;> simp only [toD, PyData.eqv, bare, reduceCtorEq, Bool.false_eq_true]
    · rw [eqv_plains xs _ hx' hy]; simp
    · rw [eqv_plains xs _ hx' hy]; simp
  | .fls xs, y, hx, hy => by
    have hx' : plainAll xs = true := by simpa [plain] using hx
    cases y <;> simp [plain] at hy <;> simp only [toD, PyData.eqv, bare, reduceCtorEq, Bool.false_eq_true]
    · rw [eqv_plains xs _ hx' hy]; simp
theorem eqv_plains : ∀ (xs ys : List PV), plainAll xs = true → plainAll ys = true → (PyData.eqvAll (toDs xs) (toDs ys) = true ↔ bares xs = bares ys)
  | [], [], _, _ => by simp [toDs, PyData.eqvAll, bares]
  | [], y :: ys, _, _ => by simp [toDs, PyData.eqvAll, bares]
  | x :: xs, [], _, _ => by simp [toDs, PyData.eqvAll, bares]
  | x :: xs, y :: ys, hx, hy => by
    have hx' : plain x = true ∧ plainAll xs = true := by simpa [plainAll] using hx
    have hy' : plain y = true ∧ plainAll ys = true := by simpa [plainAll] using hy
    simp only [toDs, PyData.eqvAll, bares, Bool.and_eq_true, List.cons.injEq]
    rw [eqv_plain x y hx'.1 hy'.1, eqv_plains xs ys hx'.2 hy'.2]
end
/-- plain and of little depth -/
def Pl (x : PV) : Prop := plain x = true ∧ pdep x ≤ 64
section
variable {x y : PV} {h : Hh} {Q : QV}
theorem eq_pl (hx : Pl x) (hy : Pl y) {b : Bool} (hb : b = true ↔ bare x = bare y) (q : Q (.bl b) h) : oEq.run x y h Q := by
  refine ⟨64, toD x, toD y, dat_plain 64 x hx.1 hx.2, dat_plain 64 y hy.1 hy.2, shaped_plain hx.1 hx.2, shaped_plain hy.1 hy.2, ?_⟩
  have : PyData.eqv (toD x) (toD y) = b := by rw [Bool.eq_iff_iff, hb, eqv_plain x y hx.1 hy.1]
  rw [this]; exact q
theorem ne_pl (hx : Pl x) (hy : Pl y) {b : Bool} (hb : b = true ↔ ¬ bare x = bare y) (q : Q (.bl b) h) : oNe.run x y h Q := by
  refine ⟨64, toD x, toD y, dat_plain 64 x hx.1 hx.2, dat_plain 64 y hy.1 hy.2, shaped_plain hx.1 hx.2, shaped_plain hy.1 hy.2, ?_⟩
  have : (!PyData.eqv (toD x) (toD y)) = b := by
    have h1 := eqv_plain x y hx.1 hy.1
    cases hc : PyData.eqv (toD x) (toD y) with
    | true => rw [hc] at h1; cases b with
      | true => exact absurd (h1.mp rfl) (hb.mp rfl)
      | false => rfl
    | false => rw [hc] at h1; cases b with
      | true => rfl
      | false => exact absurd (hb.mpr fun z => by simpa using h1.mpr z) (by simp)
  rw [this]; exact q
theorem eq_int {i j : Int} (q : Q (.bl (decide (i = j))) h) : oEq.run (.int i) (.int j) h Q := eq_pl ⟨rfl, by simp [pdep]⟩ ⟨rfl, by simp [pdep]⟩ (by simp [bare]) q
theorem ne_int {i j : Int} (q : Q (.bl (decide (i ≠ j))) h) : oNe.run (.int i) (.int j) h Q := ne_pl ⟨rfl, by simp [pdep]⟩ ⟨rfl, by simp [pdep]⟩ (by simp [bare]) q
theorem eq_str {s t : Str} (hs : PySem.PyData.canLay0 (.str s) = true) (ht : PySem.PyData.canLay0 (.str t) = true) (q : Q (.bl (s == t)) h) : oEq.run (.str s) (.str t) h Q := by
  refine ⟨1, .str s, .str t, rfl, rfl, ?_, ?_, ?_⟩
  · unfold SeqAt.shaped; rw [hs]; rfl
  · unfold SeqAt.shaped; rw [ht]; rfl
  · simpa [PyData.eqv] using q
theorem ne_str {s t : Str} (hs : PySem.PyData.canLay0 (.str s) = true) (ht : PySem.PyData.canLay0 (.str t) = true) (q : Q (.bl (!(s == t))) h) : oNe.run (.str s) (.str t) h Q := by
  refine ⟨1, .str s, .str t, rfl, rfl, ?_, ?_, ?_⟩
  · unfold SeqAt.shaped; rw [hs]; rfl
  · unfold SeqAt.shaped; rw [ht]; rfl
  · simpa [PyData.eqv] using q
/-- what a list's items are -/
theorem dat_lst {l : Nat} {xs : List PV} (hl : h[l]? = some (.lst xs)) (hx : plainAll xs = true) (hd : pdeps xs ≤ 60) : dat h 64 (.loc l) = some (.list (toDs xs)) := by
  show (match h[l]? with
      | some (.lst xs) => (xs.mapM (dat h 63)).map PyData.list
      | _ => none) = _
  rw [hl]
  show (xs.mapM (dat h 63)).map PyData.list = _
  rw [mapM_dat (dat_plains 63 xs hx (by omega))]; rfl
theorem shaped_lst {xs : List PV} (hx : plainAll xs = true) (hd : pdeps xs ≤ 60) : SeqAt.shaped (.list (toDs xs)) = true := by
  have := shape_plains xs hx
  have h1 : (PyData.list (toDs xs)).canLay0 = true := by simp only [PyData.canLay0, this.1]
  have h2 : (PyData.list (toDs xs)).depth ≤ 64 := by simp only [PyData.depth]; omega
  unfold SeqAt.shaped
  rw [h1, decide_eq_true h2]; rfl
/-- a list against an empty one -/
theorem ne_nil {l k : Nat} {xs : List PV} (hl : h[l]? = some (.lst xs)) (hk : h[k]? = some (.lst [])) (hx : plainAll xs = true) (hd : pdeps xs ≤ 60) (q : Q (.bl (!xs.isEmpty)) h) : oNe.run (.loc l) (.loc k) h Q := by
  refine ⟨64, _, _, dat_lst hl hx hd, dat_lst hk rfl (by simp [pdeps]), shaped_lst hx hd, shaped_lst rfl (by simp [pdeps]), ?_⟩
  cases xs with
  | nil => simpa [toDs, PyData.eqv, PyData.eqvAll] using q
  | cons x xs => simpa [toDs, PyData.eqv, PyData.eqvAll] using q
/-- two lists of plain data -/
theorem ne_lst {l k : Nat} {xs ys : List PV} (hl : h[l]? = some (.lst xs)) (hk : h[k]? = some (.lst ys)) (hx : plainAll xs = true) (hd : pdeps xs ≤ 60) (hy : plainAll ys = true) (hdy : pdeps ys ≤ 60) {b : Bool} (hb : b = true ↔ ¬ bares xs = bares ys) (q : Q (.bl b) h) : oNe.run (.loc l) (.loc k) h Q := by
  refine ⟨64, _, _, dat_lst hl hx hd, dat_lst hk hy hdy, shaped_lst hx hd, shaped_lst hy hdy, ?_⟩
  have h1 := eqv_plains xs ys hx hy
  have : (!PyData.eqv (.list (toDs xs)) (.list (toDs ys))) = b := by
    show (!PyData.eqvAll (toDs xs) (toDs ys)) = b
    cases hc : PyData.eqvAll (toDs xs) (toDs ys) with
    | true => rw [hc] at h1; cases b with
      | true => exact absurd (h1.mp rfl) (hb.mp rfl)
      | false => rfl
    | false => rw [hc] at h1; cases b with
      | true => rfl
      | false => exact absurd (hb.mpr fun z => by simpa using h1.mpr z) (by simp)
  rw [this]; exact q
/-- in, of a list of plain data -/
theorem any_plain {xs : List PV} {y : PV} (hy : plain y = true) : ∀ {xs : List PV}, plainAll xs = true → ((toDs xs).any (fun z => PyData.eqv z (toD y)) = true ↔ ∃ x ∈ xs, bare x = bare y)
  | [], _ => by simp [toDs]
  | x :: xs, hx => by
    have hx' : plain x = true ∧ plainAll xs = true := by simpa [plainAll] using hx
    rw [toDs, List.any_cons, Bool.or_eq_true, eqv_plain x y hx'.1 hy, any_plain (xs := xs) hy hx'.2]
    simp
theorem in_lst {l : Nat} {xs : List PV} (hl : h[l]? = some (.lst xs)) (hx : plainAll xs = true) (hd : pdeps xs ≤ 60) (hy : Pl y) {b : Bool} (hb : b = true ↔ ∃ x ∈ xs, bare x = bare y) (q : Q (.bl b) h) : oInAll.run y (.loc l) h Q := by
  refine .inl ⟨64, toD y, toDs xs, dat_plain 64 y hy.1 hy.2, dat_lst hl hx hd, shaped_plain hy.1 hy.2, shaped_lst hx hd, ?_⟩
  have : (toDs xs).any (fun z => PyData.eqv z (toD y)) = b := by rw [Bool.eq_iff_iff, hb, any_plain (xs := xs) hy.1 hx]
  rw [this]; exact q
theorem notin_lst {l : Nat} {xs : List PV} (hl : h[l]? = some (.lst xs)) (hx : plainAll xs = true) (hd : pdeps xs ≤ 60) (hy : Pl y) {b : Bool} (hb : b = true ↔ ¬ ∃ x ∈ xs, bare x = bare y) (q : Q (.bl b) h) : oNotInAll.run y (.loc l) h Q := by
  refine .inl ⟨64, toD y, toDs xs, dat_plain 64 y hy.1 hy.2, dat_lst hl hx hd, shaped_plain hy.1 hy.2, shaped_lst hx hd, ?_⟩
  have h1 := any_plain (xs := xs) hy.1 hx
  have : (!(toDs xs).any (fun z => PyData.eqv z (toD y))) = b := by
    cases hc : (toDs xs).any (fun z => PyData.eqv z (toD y)) with
    | true => rw [hc] at h1; cases b with
      | true => exact absurd (h1.mp rfl) (hb.mp rfl)
      | false => rfl
    | false => rw [hc] at h1; cases b with
      | true => rfl
      | false => exact absurd (hb.mpr fun z => by simpa using h1.mpr z) (by simp)
  rw [this]; exact q
end
end PyA
end
section
set_option Elab.async false
set_option linter.all false
set_option maxRecDepth 100000
set_option maxHeartbeats 4000000
/-! PyW: rows, watches, sequences as values -/
namespace PyA
open PySem L2
local macro_rules | `(tactic| walk_at "w") => `(tactic| try simp only [w_var, w_c, w_nil, w_cons, w_star, w_tup, w_lst, w_o2, w_on, w_tb, w_chain, w_tand, w_tor, w_tnot, w_tys, w_and, w_or, w_not, w_ife, w_neg, w_call, w_callK, w_callP, w_callL, w_lam0, w_mt, w_fld, w_xf, w_prop, w_make, w_dic0, w_disp, w_pnil, w_pcons, w_lc, w_dc, w_lock, w_slock, w_lkAt, w_lkN, w_lkR, w_lkB, w_lkC, w_lkX, w_rg1, w_seq, w_skip, w_brk, w_cnt, w_exp, w_ret, w_retN, w_asg, w_if, w_par, w_par3, w_for, w_raise, w_try, w_sfld, w_nm, w_gnil, w_gcons, w_gtp, w_gix, w_o3, w_itS, w_itR1, w_itR2, w_itEn, w_itK, w_itKV, w_seqL, w_seqT, w_seqF, w_seqTF, w_enT, w_enF, w_enL, w_sub, w_mul, w_mod, w_fdiv, w_pow, w_lt, w_le, w_gt, w_ge, w_isN, w_notN, w_addI, w_addS, w_addT, w_ixT, w_ixF, w_ixL, w_lenT, w_lenF, w_lenTF, w_lenS, w_lenL, w_f1, w_i2, w_LI, w_LB, w_sort, w_listT, w_listF, w_listL, w_tupT, w_tupF, w_tupL, w_tupleF, w_lenSet, w_minD, w_tupIx, w_append, w_popAt, w_get, w_setd, w_recvL, w_itT, w_itF, w_itTF, w_itL, w_itI, w_itN, w_itB, w_itStr, w_F, w_L, w_lkm, w_lkw, w_ip1, w_ip2, w_fIntI, w_fIntB, w_fAbs, w_dkI, w_dkS, w_dkT, w_kind0, w_kindC, w_eqI, w_neI, Sum.isLeft_inl, Sum.isLeft_inr, decide_eq_true_eq, exists_false, exists_prop_of_true, w_itpL, w_itpF, w_itpT, w_itpTF, w_isNI, w_isNN, w_isNB, w_isNS, w_isNT, w_isNTF, w_isNF, w_isNL, w_isNX, wipeE, perm, List.map_cons, List.map_nil, List.getD_cons_zero, List.getD_cons_succ, List.length_cons, List.length_nil, List.replicate, List.cons_append, List.nil_append, List.append_nil, List.getElem?_cons_zero, List.getElem?_cons_succ, List.getElem?_nil, List.set_cons_zero, List.set_cons_succ, Option.some.injEq, Sum.inl.injEq, Sum.inr.injEq, PV.int.injEq, PV.bl.injEq, PV.loc.injEq, PV.tup.injEq, PV.str.injEq, PV.fls.injEq, PV.ftp.injEq, Cell.lst.injEq, Cell.dic.injEq, Cell.ins.injEq, Cell.dik.injEq, List.cons.injEq, exists_eq_left, exists_eq_left', exists_and_left, exists_and_right, exists_eq_right, exists_eq_right', exists_const, exists_eq, exists_eq', reduceCtorEq, false_and, and_false, true_and, and_true, or_false, false_or, true_or, or_true, and_self, if_true, if_false, Bool.false_eq_true, Bool.not_true, Bool.not_false, Nat.zero_add, Nat.reduceAdd, Nat.reduceSub, Nat.reduceLeDiff, Nat.reduceEqDiff, and_assoc, *])
local macro_rules | `(tactic| walk_at "n") => `(tactic| ((first | refine w_go ?_ | (dsimp only; refine w_go ?_) | (walk_at "w"; refine w_go ?_)); walk_at "w"))
local macro_rules | `(tactic| walk_at "v") => `(tactic| try simp only [w_var, w_c, w_nil, w_cons, w_star, w_tup, w_lst, w_o2, w_on, w_tb, w_chain, w_tand, w_tor, w_tnot, w_tys, w_and, w_or, w_not, w_ife, w_neg, w_call, w_callK, w_callP, w_callL, w_lam0, w_mt, w_fld, w_xf, w_prop, w_make, w_dic0, w_disp, w_pnil, w_pcons, w_lc, w_dc, w_lock, w_slock, w_lkAt, w_lkN, w_lkR, w_lkB, w_lkC, w_lkX, w_rg1, w_seq, w_skip, w_brk, w_cnt, w_exp, w_ret, w_retN, w_asg, w_if, w_par, w_par3, w_for, w_raise, w_try, w_sfld, w_nm, w_gnil, w_gcons, w_gtp, w_gix, w_o3, w_itS, w_itR1, w_itR2, w_itEn, w_itK, w_itKV, w_seqL, w_seqT, w_seqF, w_seqTF, w_enT, w_enF, w_enL, w_sub, w_mul, w_mod, w_fdiv, w_pow, w_lt, w_le, w_gt, w_ge, w_isN, w_notN, w_addI, w_addS, w_addT, w_ixT, w_ixF, w_lenT, w_lenF, w_lenTF, w_lenS, w_lenL, w_f1, w_i2, w_LI, w_LB, w_sort, w_listT, w_listF, w_listL, w_tupT, w_tupF, w_tupL, w_tupleF, w_lenSet, w_minD, w_tupIx, w_append, w_popAt, w_get, w_setd, w_recvL, w_itT, w_itF, w_itTF, w_itL, w_itI, w_itN, w_itB, w_itStr, w_F, w_L, w_lkm, w_lkw, w_ip1, w_ip2, w_fIntI, w_fIntB, w_fAbs, w_dkI, w_dkS, w_dkT, w_kind0, w_kindC, w_eqI, w_neI, Sum.isLeft_inl, Sum.isLeft_inr, decide_eq_true_eq, exists_false, exists_prop_of_true, w_itpL, w_itpF, w_itpT, w_itpTF, w_isNI, w_isNN, w_isNB, w_isNS, w_isNT, w_isNTF, w_isNF, w_isNL, w_isNX, wipeE, perm, List.map_cons, List.map_nil, List.getD_cons_zero, List.getD_cons_succ, List.length_cons, List.length_nil, List.replicate, List.cons_append, List.nil_append, List.append_nil, List.getElem?_cons_zero, List.getElem?_cons_succ, List.getElem?_nil, List.set_cons_zero, List.set_cons_succ, Option.some.injEq, Sum.inl.injEq, Sum.inr.injEq, PV.int.injEq, PV.bl.injEq, PV.loc.injEq, PV.tup.injEq, PV.str.injEq, PV.fls.injEq, PV.ftp.injEq, Cell.lst.injEq, Cell.dic.injEq, Cell.ins.injEq, Cell.dik.injEq, List.cons.injEq, exists_eq_left, exists_eq_left', exists_and_left, exists_and_right, exists_eq_right, exists_eq_right', exists_const, exists_eq, exists_eq', reduceCtorEq, false_and, and_false, true_and, and_true, or_false, false_or, true_or, or_true, and_self, if_true, if_false, Bool.false_eq_true, Bool.not_true, Bool.not_false, Nat.zero_add, Nat.reduceAdd, Nat.reduceSub, Nat.reduceLeDiff, Nat.reduceEqDiff, and_assoc, *])
theorem sl_big : 1000 ≤ sizeLine := by unfold sizeLine; decide
theorem map_inj {α β : Type} {f : α → β} (hf : ∀ a b, f a = f b → a = b) : ∀ {r s : List α}, r.map f = s.map f → r = s
  | [], [], _ => rfl
  | [], _ :: _, h => by simp at h
  | _ :: _, [], h => by simp at h
  | a :: r, b :: s, h => by
    simp only [List.map_cons, List.cons.injEq] at h
    rw [hf a b h.1, map_inj hf h.2]
def nums (r : List Nat) : List PV := r.map fun n => PV.int (n : Nat)
def encR (r : List Nat) : PV := .tup (nums r)
def encM (mv : List (List Nat)) : PV := .tup (mv.map encR)
def watchC (mv : List (List Nat)) (wd : List Nat) : Cell := .ins "Watch" ["own_moves", "own_words"] [encM mv, encR wd]
/-- a Watch that stands -/
def IsW (h : Hh) (l : Nat) (mv : List (List Nat)) (wd : List Nat) : Prop := 3 ≤ l ∧ h[l]? = some (watchC mv wd)
theorem IsW.ext {h h' : Hh} {l : Nat} {mv : List (List Nat)} {wd : List Nat} (w : IsW h l mv wd) (E : Ext h h') : IsW h' l mv wd := ⟨w.1, E.get w.2 w.1⟩
def SeqV (h : Hh) (x : PV) (xs : List PV) : Prop := match x with
  | .tup ys => ys = xs
  | .fls ys => ys = xs
  | .loc l => 3 ≤ l ∧ h[l]? = some (.lst xs)
  | _ => False
theorem SeqV.ext {h h' : Hh} {x : PV} {xs : List PV} (s : SeqV h x xs) (E : Ext h h') : SeqV h' x xs := by
  cases x <;> first | exact s | exact ⟨s.1, E.get s.2 s.1⟩
theorem SeqV.items {h : Hh} {x : PV} {xs : List PV} (s : SeqV h x xs) : itemsOf h x = some xs := by
  cases x with
  | tup ys => cases s; rfl
  | fls ys => cases s; rfl
  | loc l => simp only [itemsOf, s.2]
  | _ => exact s.elim
theorem SeqV.not_str {h : Hh} {x : PV} {xs : List PV} (s : SeqV h x xs) (z : Str) : x ≠ .str z := fun e => by subst e; exact s
theorem itr_of {h : Hh} {x : PV} {xs : List PV} (s : SeqV h x xs) {P : Itr → Prop} (k : ∀ ok : Hh → Prop, (∀ h', Ext h h' → ok h') → P ⟨xs, ok⟩) : ∃ J, SeqItr x h J ∧ P J := by
  cases x with
  | tup ys => cases s; exact ⟨_, rfl, k _ fun _ _ => trivial⟩
  | fls ys => cases s; exact ⟨_, rfl, k _ fun _ _ => trivial⟩
  | loc l => exact ⟨_, ⟨xs, s.2, rfl⟩, k _ fun h' E => E.get s.2 s.1⟩
  | _ => exact s.elim
theorem en_of {h : Hh} {x : PV} {xs : List PV} (s : SeqV h x xs) {P : Itr → Prop} (k : ∀ ok : Hh → Prop, (∀ h', Ext h h' → ok h') → P (enuI xs ok)) : ∃ J, EnuItr x h J ∧ P J := by
  cases x with
  | tup ys => cases s; exact ⟨_, .inr (.inr ⟨_, rfl, rfl⟩), k _ fun _ _ => trivial⟩
  | fls ys => cases s; exact ⟨_, .inr (.inl ⟨_, rfl, rfl⟩), k _ fun _ _ => trivial⟩
  | loc l => exact ⟨_, .inl ⟨l, xs, rfl, s.2, rfl⟩, k _ fun h' E => E.get s.2 s.1⟩
  | _ => exact s.elim
theorem itr_at {h0 h : Hh} {x : PV} {xs : List PV} (s : SeqV h0 x xs) (E : Ext h0 h) {P : Itr → Prop} (k : ∀ ok : Hh → Prop, (∀ h', Ext h0 h' → ok h') → P ⟨xs, ok⟩) : ∃ J, SeqItr x h J ∧ P J := by
  have s' := s.ext E
  cases x with
  | tup ys => cases s; exact ⟨_, rfl, k _ fun _ _ => trivial⟩
  | fls ys => cases s; exact ⟨_, rfl, k _ fun _ _ => trivial⟩
  | loc l => exact ⟨_, ⟨xs, s'.2, rfl⟩, k _ fun h' E => E.get s.2 s.1⟩
  | _ => exact s.elim
theorem en_at {h0 h : Hh} {x : PV} {xs : List PV} (s : SeqV h0 x xs) (E : Ext h0 h) {P : Itr → Prop} (k : ∀ ok : Hh → Prop, (∀ h', Ext h0 h' → ok h') → P (enuI xs ok)) : ∃ J, EnuItr x h J ∧ P J := by
  have s' := s.ext E
  cases x with
  | tup ys => cases s; exact ⟨_, .inr (.inr ⟨_, rfl, rfl⟩), k _ fun _ _ => trivial⟩
  | fls ys => cases s; exact ⟨_, .inr (.inl ⟨_, rfl, rfl⟩), k _ fun _ _ => trivial⟩
  | loc l => exact ⟨_, .inl ⟨l, xs, rfl, s'.2, rfl⟩, k _ fun h' E => E.get s.2 s.1⟩
  | _ => exact s.elim
theorem len_of {h : Hh} {x : PV} {xs : List PV} (s : SeqV h x xs) {Q : QV} (q : Q (.int (xs.length : Nat)) h) : nLen.run [x] h Q := ⟨x, rfl, .inl ⟨xs, s.items, q⟩⟩
theorem ix_of {h : Hh} {x y : PV} {xs : List PV} {i : Int} {Q : QV} (s : SeqV h x xs) (hy : atI xs i = some y) (q : Q y h) : oIx.run x (.int i) h Q := by
  cases x with
  | tup ys => cases s; exact ⟨i, y, rfl, hy, q⟩
  | fls ys => cases s; exact ⟨i, y, rfl, hy, q⟩
  | loc l => exact .inl ⟨xs, i, y, s.2, rfl, hy, q⟩
  | _ => exact s.elim
theorem tuple_of {h : Hh} {x : PV} {xs : List PV} {Q : QV} (s : SeqV h x xs) (q : Q (.tup xs) h) : nTuple.run [x] h Q := by
  cases x with
  | tup ys => cases s; rw [w_tupT]; exact q
  | fls ys => cases s; rw [w_tupF]; exact q
  | loc l => rw [w_tupL]; exact ⟨xs, s.2, q⟩
  | _ => exact s.elim
theorem list_of {h : Hh} {x : PV} {xs : List PV} {Q : QV} (s : SeqV h x xs) (q : New h (.lst xs) fun l h2 => Q (.loc l) h2) : nList.run [x] h Q := by
  cases x with
  | tup ys => cases s; rw [w_listT]; exact q
  | fls ys => cases s; rw [w_listF]; exact q
  | loc l => rw [w_listL]; exact ⟨xs, s.2, q⟩
  | _ => exact s.elim
/-- rows in rows -/
def Rows (h : Hh) : List PV → List (List Nat) → Prop
  | [], rs => rs = []
  | x :: xs, rs => ∃ r t, rs = r :: t ∧ SeqV h x (nums r) ∧ Rows h xs t
theorem Rows.ext {h h' : Hh} (E : Ext h h') : ∀ {xs : List PV} {rs : List (List Nat)}, Rows h xs rs → Rows h' xs rs
  | [], _, s => s
  | x :: xs, _, ⟨r, t, e, a, b⟩ => ⟨r, t, e, a.ext E, Rows.ext E b⟩
theorem Rows.len {h : Hh} : ∀ {xs : List PV} {rs : List (List Nat)}, Rows h xs rs → xs.length = rs.length
  | [], rs, s => by rw [show rs = [] from s]; rfl
  | x :: xs, _, ⟨r, t, e, a, b⟩ => by rw [e]; simp [Rows.len b]
theorem Rows.at {h : Hh} : ∀ {xs : List PV} {rs : List (List Nat)} {i : Nat} {x : PV}, Rows h xs rs → xs[i]? = some x → ∃ r, rs[i]? = some r ∧ SeqV h x (nums r)
  | [], _, _, _, _, e => by simp at e
  | y :: xs, _, 0, x, ⟨r, t, e, a, b⟩, e2 => by
    simp at e2; subst e2 e
    exact ⟨r, rfl, a⟩
  | y :: xs, _, i + 1, x, ⟨r, t, e, a, b⟩, e2 => by
    subst e
    exact Rows.at (i := i) b (by simpa using e2)
theorem rows_tup {h : Hh} : ∀ (mv : List (List Nat)), Rows h (mv.map encR) mv
  | [] => rfl
  | r :: mv => ⟨r, mv, rfl, rfl, rows_tup mv⟩
theorem nums_len (r : List Nat) : (nums r).length = r.length := by simp [nums]
/-- subscripts -/
theorem atI_map {α : Type} {f : α → PV} {xs : List α} {i : Nat} {x : α} (h : xs[i]? = some x) : atI (xs.map f) (i : Nat) = some (f x) := by
  unfold atI ixN
  have hl : i < xs.length := (List.getElem?_eq_some_iff.mp h).1
  have h1 : ((i : Nat) : Int) < ((xs.map f).length : Nat) := by simp; exact hl
  rw [if_pos (by omega), if_pos h1]
  simp [h]
theorem atI_nums {r : List Nat} {i : Nat} (h : i < r.length) : atI (nums r) (i : Nat) = some (.int (r.getD i 0 : Nat)) := by
  unfold nums
  rw [atI_map (x := r.getD i 0)]
  rw [List.getD_eq_getElem?_getD, List.getElem?_eq_getElem h]; rfl
theorem atI_rows {mv : List (List Nat)} {i : Nat} (h : i < mv.length) : atI (mv.map encR) (i : Nat) = some (encR (Mx.goals mv i)) := atI_map (Mx.goals_of h)
theorem ixN_nat {n i : Nat} (h : i < n) : ixN n (i : Nat) = some i := by
  unfold ixN
  rw [if_pos (by omega), if_pos (by omega)]; simp
section
variable {kt : List (Tag × Tag × Bool)} {ci ce : List Str} {h : Hh} {Q : QV}
theorem isi1 {x c : PV} {t u : Tag} {b : Bool} (ht : tagPV h x = some t) (ho : tagOk ci ce h x) (hc : clsPV c = some u) (hm : (t, u, b) ∈ kt) (q : Q (.bl b) h) : (nIsi kt ci ce).run [x, c] h Q := ⟨x, c, t, b, rfl, ht, ho, .inl ⟨u, hc, hm⟩, q⟩
theorem isi2 {x : PV} {cs : List PV} {t : Tag} {us : List Tag} {b : Bool} (ht : tagPV h x = some t) (ho : tagOk ci ce h x) (hc : cs.mapM clsPV = some us) (hm : KAns kt t us b) (q : Q (.bl b) h) : (nIsi kt ci ce).run [x, .tup cs] h Q := ⟨x, .tup cs, t, b, rfl, ht, ho, .inr ⟨cs, us, rfl, hc, hm⟩, q⟩
end
/-- ordinary values -/
def Ord : PV → Prop
  | .non => True
  | .bl _ => True
  | .int _ => True
  | .str _ => True
  | .tup _ => True
  | _ => False
def isI : PV → Option Int
  | .int i => some i
  | _ => none
def btw (x : PV) (lo hi : Int) : Bool := match x with
  | .int i => decide (lo ≤ i ∧ i ≤ hi)
  | _ => false
theorem tag_seq {h : Hh} {x : PV} {xs : List PV} (s : SeqV h x xs) (hx : ∀ ys, x ≠ .fls ys) : tagPV h x = some (.bi "tuple") ∨ tagPV h x = some (.bi "list") := by
  cases x with
  | tup ys => exact .inl rfl
  | fls ys => exact absurd rfl (hx ys)
  | loc l => exact .inr (by simp only [tagPV, s.2])
  | _ => exact s.elim
theorem ok_seq {h : Hh} {x : PV} {xs : List PV} {ci ce : List Str} (s : SeqV h x xs) : tagOk ci ce h x := by
  cases x with
  | loc l => simp only [tagOk, s.2]
  | exn => exact s.elim
  | _ => trivial
theorem pl_int {i : Int} : Pl (.int i) := ⟨rfl, by simp [pdep]⟩
theorem pl_non : Pl .non := ⟨rfl, by simp [pdep]⟩
theorem plain_nums : ∀ (r : List Nat), plainAll (nums r) = true ∧ pdeps (nums r) ≤ 1
  | [] => by simp [nums, plainAll, pdeps]
  | n :: r => by
    have := plain_nums r
    simp only [nums, List.map_cons, plainAll, PyA.plain, pdeps, pdep] at this ⊢
    exact ⟨by simpa using this.1, by omega⟩
theorem bares_nums : ∀ (r : List Nat), bares (nums r) = nums r
  | [] => rfl
  | n :: r => by
    have := bares_nums r
    simp only [nums, List.map_cons, bares, bare] at this ⊢
    rw [this]
theorem pl_row (r : List Nat) : Pl (encR r) := by
  have := plain_nums r
  exact ⟨by simpa [encR, PyA.plain] using this.1, by simp [encR, pdep]; omega⟩
theorem bare_row (r : List Nat) : bare (encR r) = encR r := by simp only [encR, bare, bares_nums]
theorem nums_inj {r s : List Nat} (h : nums r = nums s) : r = s := by
  unfold nums at h
  exact map_inj (fun a b e => by injection e with e; omega) h
theorem encR_inj {r s : List Nat} (h : encR r = encR s) : r = s := nums_inj (by simpa [encR] using h)
theorem plain_rows : ∀ (mv : List (List Nat)), plainAll (mv.map encR) = true ∧ pdeps (mv.map encR) ≤ 2
  | [] => by simp [plainAll, pdeps]
  | r :: mv => by
    have h1 := plain_rows mv
    have h2 := plain_nums r
    simp only [List.map_cons, plainAll, encR, PyA.plain, pdeps, pdep] at h1 ⊢
    exact ⟨by rw [h2.1]; simpa using h1.1, by omega⟩
theorem bares_rows : ∀ (mv : List (List Nat)), bares (mv.map encR) = mv.map encR
  | [] => rfl
  | r :: mv => by
    rw [List.map_cons, bares, bare_row, bares_rows mv]
theorem rows_inj {r s : List (List Nat)} (h : r.map encR = s.map encR) : r = s := map_inj (fun a b e => encR_inj e) h
/-- items made one by one, known but for what they fulfil -/
theorem lc_ex {α β : Type} {g : AG} {C : AT} {A : AE} {ok : Hh → Prop} {e : Ev} {Q : QV} {f : α → PV} {xs : List α} {h0 h : Hh} {D : Nat} {L : List (Nat × Cell)} (O : Own h0 h ((D, .lst []) :: L)) (enc : β → PV) (good : α → β → Prop) (hl : xs.length ≤ sizeLine) (hok : ∀ acc h', Own h0 h' ((D, .lst acc) :: L) → ok h')
    (step : ∀ x, x ∈ xs → ∀ acc h', Own h0 h' ((D, .lst acc) :: L) → g.run (f x) e h' fun e2 h2 => C.run e2 h2 (fun b h3 => b = true ∧ Ext h' h3 ∧ A.run e2 h3 (fun y h4 => ∃ z, y = enc z ∧ good x z ∧ Ext h' h4) NX) NX)
    (fin : ∀ (ys : List β) h', ys.length = xs.length → (∀ (i : Nat) (x : α) (y : β), xs[i]? = some x → ys[i]? = some y → good x y) → Own h0 h' ((D, .lst (ys.map enc)) :: L) → Q (.loc D) h') : compL g C A ok e D Q (xs.map f) h := by
  refine lc_own O (fun d acc => ∃ ys : List β, acc = ys.map enc ∧ ys.length = d.length ∧ ∀ (i : Nat) (x : α) (y : β), d[i]? = some x → ys[i]? = some y → good x y) ⟨[], rfl, rfl, fun i x y e => by simp at e⟩ hl hok ?_ ?_
  · rintro d x r acc h' hx ⟨ys, rfl, hlen, hg⟩ O'
    refine g.mono (step x (by rw [hx]; simp) _ h' O') fun e2 h2 q => C.mono q (fun b h3 ⟨e1, E3, q3⟩ => ?_) fun _ _ z => z
    rw [if_pos e1]
    refine A.mono q3 (fun y h4 ⟨z, e2, gz, E4⟩ => ⟨O'.call E4, ys ++ [z], by rw [e2]; simp, by simp [hlen], ?_⟩) fun _ _ z => z
    intro i x' y' h1 h2
    by_cases hi : i < d.length
    · rw [List.getElem?_append_left hi] at h1
      rw [List.getElem?_append_left (by omega)] at h2
      exact hg i x' y' h1 h2
    · have hi2 : i = d.length := by
        have := (List.getElem?_eq_some_iff.mp h1).1
        simp at this; omega
      subst hi2
      rw [List.getElem?_append_right (Nat.le_refl _)] at h1
      rw [List.getElem?_append_right (by omega), hlen] at h2
      simp at h1 h2
      subst h1 h2
      exact gz
  · rintro acc h' O' ⟨ys, rfl, hlen, hg⟩
    exact fin ys h' hlen hg O'
theorem ex_nums {r : List Nat} {n : Nat} : (∃ x ∈ nums r, bare x = bare (.int (n : Nat))) ↔ n ∈ r := by
  unfold nums
  simp only [List.mem_map, bare]
  constructor
  · rintro ⟨x, ⟨m, hm, rfl⟩, e⟩
    simp only [bare, PV.int.injEq] at e
    have : m = n := by omega
    exact this ▸ hm
  · exact fun h => ⟨_, ⟨n, h, rfl⟩, rfl⟩
theorem nums_map {α : Type} (f : α → Nat) (l : List α) : l.map (fun g => PV.int (f g : Nat)) = nums (l.map f) := by unfold nums; rw [List.map_map]; rfl
theorem nums_snoc (r : List Nat) (n : Nat) : nums (r ++ [n]) = nums r ++ [.int (n : Nat)] := by simp [nums]
theorem en_row {h : Hh} {r : List Nat} {P : Itr → Prop} (k : P (enuI (nums r) fun _ => True)) : ∃ J, EnuItr (encR r) h J ∧ P J := ⟨_, .inr (.inr ⟨_, rfl, rfl⟩), k⟩
theorem itr_row {h : Hh} {r : List Nat} {P : Itr → Prop} (k : P ⟨nums r, fun _ => True⟩) : ∃ J, SeqItr (encR r) h J ∧ P J := ⟨_, rfl, k⟩
/-- a drawn watch -/
def encW (mv : List (List Nat)) (wd : List Nat) : PV := .tup [encM mv, encR wd]
/-- what a Watch needs -/
structure Fit (k : Nat) (mv : List (List Nat)) (wd : List Nat) : Prop where
  wf : Mx.WF k mv wd
  m6 : mv.length ≤ 6
  k1 : 1 ≤ k
  k4 : k ≤ 4
  w3 : ∀ w ∈ wd, w ≤ 3
theorem goals_mem {mv : List (List Nat)} {p : Nat} (h : p < mv.length) : Mx.goals mv p ∈ mv := List.mem_of_getElem? (Mx.goals_of h)
theorem fit_of {k : Nat} {mv : List (List Nat)} {wd : List Nat} (h1 : 1 ≤ mv.length) (h2 : mv.length ≤ 6) (hw : wd.length = mv.length) (k1 : 1 ≤ k) (k4 : k ≤ 4) (hk : ∀ r ∈ mv, r.length = k) (hg : ∀ r ∈ mv, ∀ g ∈ r, g < mv.length) (w3 : ∀ w ∈ wd, w ≤ 3) : Fit k mv wd :=
  ⟨⟨h1, hw, fun p hp => hk _ (goals_mem hp), fun p g hp hg' => hg _ (goals_mem hp) g hg'⟩, h2, k1, k4, w3⟩
theorem good_mem {α β : Type} {xs : List α} {ys : List β} {good : α → β → Prop} (hl : ys.length = xs.length) (h : ∀ (i : Nat) (x : α) (y : β), xs[i]? = some x → ys[i]? = some y → good x y) : ∀ y ∈ ys, ∃ x ∈ xs, good x y := by
  intro y hy
  obtain ⟨i, hi⟩ := List.getElem?_of_mem hy
  have hil : i < xs.length := by rw [← hl]; exact (List.getElem?_eq_some_iff.mp hi).1
  exact ⟨xs[i], List.getElem_mem hil, h i _ y (List.getElem?_eq_getElem hil) hi⟩
end PyA
end
section
set_option Elab.async false
set_option linter.all false
set_option maxRecDepth 100000
set_option maxHeartbeats 4000000
/-! PyX: dicts by their pairs, comprehensions that make lists, list.index, len(set(..)) -/
namespace PyA
open PySem L2
section
variable {g : AG} {C : AT} {A : AE} {ok : Hh → Prop} {e : Ev} {Q : QV}
/-- what was made so far, and what else was made -/
theorem lc_ownL {α : Type} {f : α → PV} {xs : List α} {h0 h : Hh} {D : Nat} {L0 : List (Nat × Cell)} (O : Own h0 h ((D, .lst []) :: L0)) (P : List α → List PV → List (Nat × Cell) → Prop) (p0 : P [] [] L0) (hl : xs.length ≤ sizeLine) (hok : ∀ acc L h', Own h0 h' ((D, .lst acc) :: L) → ok h')
    (step : ∀ d x r acc L h', xs = d ++ x :: r → P d acc L → Own h0 h' ((D, .lst acc) :: L) → g.run (f x) e h' fun e2 h2 => C.run e2 h2 (fun b h3 => if b = true then A.run e2 h3 (fun y h4 => ∃ L', Own h0 h4 ((D, .lst acc) :: L') ∧ P (d ++ [x]) (acc ++ [y]) L') NX else ∃ L', Own h0 h3 ((D, .lst acc) :: L') ∧ P (d ++ [x]) acc L') NX)
    (fin : ∀ acc L h', Own h0 h' ((D, .lst acc) :: L) → P xs acc L → Q (.loc D) h') : compL g C A ok e D Q (xs.map f) h := by
  have : ∀ (r d : List α) (acc : List PV) (L : List (Nat × Cell)) (h : Hh), xs = d ++ r → acc.length ≤ d.length → P d acc L → Own h0 h ((D, .lst acc) :: L) → compL g C A ok e D Q (r.map f) h := by
    intro r
    induction r with
    | nil =>
      intro d acc L h hx _ p O
      rw [List.append_nil] at hx
      subst hx
      exact ⟨hok _ _ _ O, fin _ _ _ O p⟩
    | cons x r ih =>
      intro d acc L h hx hd p O
      have hx' : xs = (d ++ [x]) ++ r := by rw [hx]; simp
      have hlen : d.length < xs.length := by rw [hx]; simp
      refine ⟨hok _ _ _ O, g.mono (step d x r acc L h hx p O) fun e2 h2 q => C.mono q (fun b h3 q3 => ?_) fun _ _ z => z⟩
      cases b with
      | true =>
        refine A.mono q3 (fun y h4 ⟨L', O4, p4⟩ => ⟨acc, O4.f1, by omega, ?_⟩) fun _ _ z => z
        exact ih (d ++ [x]) (acc ++ [y]) L' _ hx' (by simp; omega) p4 (O4.put (i := 0) rfl _)
      | false =>
        obtain ⟨L', O3, p3⟩ := q3
        exact ih (d ++ [x]) acc L' _ hx' (by simp; omega) p3 O3
  exact this xs [] [] L0 h rfl (Nat.le_refl _) p0 O
theorem dc_ownL {α : Type} {B : AE} {f : α → PV} {xs : List α} {h0 h : Hh} {D : Nat} {L0 : List (Nat × Cell)} (O : Own h0 h ((D, .dik []) :: L0)) (P : List α → List (DK × PV) → List (Nat × Cell) → Prop) (p0 : P [] [] L0) (hl : xs.length < sizeLine) (hok : ∀ acc L h', Own h0 h' ((D, .dik acc) :: L) → ok h') (lp : ∀ d acc L, P d acc L → acc.length ≤ d.length)
    (step : ∀ d x r acc L h', xs = d ++ x :: r → P d acc L → Own h0 h' ((D, .dik acc) :: L) → g.run (f x) e h' fun e2 h2 => C.run e2 h2 (fun b h3 => if b = true then A.run e2 h3 (fun y h4 => B.run e2 h4 (fun z h5 => ∃ k L', dk? y = some (.inl k) ∧ Own h0 h5 ((D, .dik acc) :: L') ∧ P (d ++ [x]) (dPut acc (.inl k) z) L') NX) NX else ∃ L', Own h0 h3 ((D, .dik acc) :: L') ∧ P (d ++ [x]) acc L') NX)
    (fin : ∀ acc L h', Own h0 h' ((D, .dic false acc) :: L) → P xs acc L → Q (.loc D) h') : compD g C A B ok e D Q (xs.map f) h := by
  have : ∀ (r d : List α) (acc : List (DK × PV)) (L : List (Nat × Cell)) (h : Hh), xs = d ++ r → P d acc L → Own h0 h ((D, .dik acc) :: L) → compD g C A B ok e D Q (r.map f) h := by
    intro r
    induction r with
    | nil =>
      intro d acc L h hx p O
      rw [List.append_nil] at hx
      subst hx
      exact ⟨hok _ _ _ O, acc, O.f1, fin _ _ _ (O.put (i := 0) rfl _) p⟩
    | cons x r ih =>
      intro d acc L h hx p O
      have hx' : xs = (d ++ [x]) ++ r := by rw [hx]; simp
      have hlen : d.length < xs.length := by rw [hx]; simp
      have hla := lp d acc L p
      refine ⟨hok _ _ _ O, g.mono (step d x r acc L h hx p O) fun e2 h2 q => C.mono q (fun b h3 q3 => ?_) fun _ _ z => z⟩
      cases b with
      | true =>
        refine A.mono q3 (fun y h4 q4 => B.mono q4 (fun z h5 ⟨k, L', hk, O5, p5⟩ => ⟨acc, k, hk, O5.f1, by omega, ?_⟩) fun _ _ z => z) fun _ _ z => z
        exact ih (d ++ [x]) _ L' _ hx' p5 (O5.put (i := 0) rfl _)
      | false =>
        obtain ⟨L', O3, p3⟩ := q3
        exact ih (d ++ [x]) acc L' _ hx' p3 O3
  exact this xs [] [] L0 h rfl p0 O
end
theorem rows_of {h : Hh} : ∀ {xs : List PV} {rs : List (List Nat)}, xs.length = rs.length → (∀ (i : Nat) (x : PV) (r : List Nat), xs[i]? = some x → rs[i]? = some r → SeqV h x (nums r)) → Rows h xs rs
  | [], [], _, _ => rfl
  | [], _ :: _, hl, _ => by simp at hl
  | _ :: _, [], hl, _ => by simp at hl
  | x :: xs, r :: rs, hl, H => ⟨r, rs, rfl, H 0 x r rfl rfl, rows_of (by simpa using hl) fun i x' r' h1 h2 => H (i + 1) x' r' (by simpa using h1) (by simpa using h2)⟩
/-! ### dicts by their pairs -/
section
variable {α : Type} {kf : α → DK} {vf : α → PV} {xs : List α} {k : DK}
theorem dLook_none {kvs : List (DK × PV)} (h : ∀ p ∈ kvs, p.1 ≠ k) : dLook kvs k = none := by
  unfold dLook
  rw [List.find?_eq_none.mpr fun p hp => by simpa using h p hp]; rfl
theorem dLook_map (inj : ∀ a b, a ∈ xs → b ∈ xs → kf a = kf b → a = b) {x : α} (hx : x ∈ xs) : dLook (xs.map fun a => (kf a, vf a)) (kf x) = some (vf x) := by
  unfold dLook
  cases hf : (xs.map fun a => (kf a, vf a)).find? (fun kv => decide (kv.1 = kf x)) with
  | none =>
    rw [List.find?_eq_none] at hf
    exact absurd (decide_eq_true rfl) (hf (kf x, vf x) (List.mem_map.mpr ⟨x, hx, rfl⟩))
  | some p =>
    obtain ⟨a, ha, rfl⟩ := List.mem_map.mp (List.mem_of_find?_eq_some hf)
    have h1 : kf a = kf x := by simpa using List.find?_some hf
    rw [inj a x ha hx h1]; rfl
theorem dPut_new {kvs : List (DK × PV)} {v : PV} (h : ∀ p ∈ kvs, p.1 ≠ k) : dPut kvs k v = kvs ++ [(k, v)] := by
  unfold dPut
  rw [if_neg]
  rw [List.any_eq_true]
  rintro ⟨p, hp, e⟩
  exact h p hp (by simpa using e)
theorem dPut_map {x : α} (inj : ∀ a b, a ∈ xs → b ∈ xs → kf a = kf b → a = b) (hx : x ∈ xs) (z : PV) (w : α → PV) (hw : ∀ a, a ∈ xs → w a = if kf a = kf x then z else vf a) : dPut (xs.map fun a => (kf a, vf a)) (kf x) z = xs.map fun a => (kf a, w a) := by
  unfold dPut
  rw [if_pos]
  · rw [List.map_map]
    refine List.map_congr_left fun a ha => ?_
    show (if kf a = kf x then (kf a, z) else (kf a, vf a)) = _
    rw [hw a ha]
    split <;> rfl
  · rw [List.any_eq_true]
    exact ⟨(kf x, vf x), List.mem_map.mpr ⟨x, hx, rfl⟩, by simp⟩
theorem kind_map {kf : α → DK} (h : ∀ a ∈ xs, (kf a).isLeft = k.isLeft) : PyA.Kind (xs.map fun a => (kf a, vf a)) k := by
  intro q hq
  obtain ⟨a, ha, rfl⟩ := List.mem_map.mp hq
  exact h a ha
end
/-- the key of a number -/
abbrev plc (p : Nat) : DK := .inl (.inl (p : Nat))
theorem plc_inj {p q : Nat} (h : plc p = plc q) : p = q := by
  unfold plc at h
  simp only [Sum.inl.injEq] at h
  omega
theorem dk_plc {p : Nat} : dk? (.int (p : Nat)) = some (plc p) := rfl
theorem dkPV_plc {p : Nat} : dkPV (plc p) = .int (p : Nat) := rfl
/-- a row as a key -/
def rowK (r : List Nat) : DK := .inr (r.map fun n => .inl (n : Nat))
theorem rowK_inj {r s : List Nat} (h : rowK r = rowK s) : r = s := by
  unfold rowK at h
  simp only [Sum.inr.injEq] at h
  exact map_inj (fun a b e => by injection e with e; omega) h
theorem dk_row {r : List Nat} : dk? (encR r) = some (rowK r) := by
  unfold encR nums rowK
  rw [w_dkT]
  have : ∀ l : List Nat, (l.map fun n => PV.int (n : Nat)).mapM key? = some (l.map fun n => (Sum.inl ((n : Nat) : Int) : Key)) := by
    intro l
    induction l with
    | nil => rfl
    | cons n l ih => rw [List.map_cons, List.mapM_cons, ih]; rfl
  rw [this]; rfl
section
variable {h : Hh} {Q : QV} {l : Nat} {lk : Bool} {kvs : List (DK × PV)} {x : PV} {k : DK}
theorem notin_dic (hl : h[l]? = some (.dic false kvs)) (hk : dk? x = some k) (kd : PyA.Kind kvs k) {b : Bool} (hb : b = !(dLook kvs k).isSome) (q : Q (.bl b) h) : oNotInAll.run x (.loc l) h Q := .inr ⟨l, kvs, k, rfl, hl, hk, kd, hb ▸ q⟩
theorem in_dic (hl : h[l]? = some (.dic false kvs)) (hk : dk? x = some k) (kd : PyA.Kind kvs k) {b : Bool} (hb : b = (dLook kvs k).isSome) (q : Q (.bl b) h) : oInAll.run x (.loc l) h Q := .inr ⟨l, kvs, k, rfl, hl, hk, kd, hb ▸ q⟩
theorem ix_dic (hl : h[l]? = some (.dic lk kvs)) (hk : dk? x = some k) (kd : PyA.Kind kvs k) {v : PV} (hv : dLook kvs k = some v) (q : Q v h) : oIx.run (.loc l) x h Q := .inr ⟨lk, kvs, k, v, hl, hk, kd, hv, q⟩
end
/-! ### list.index -/
section
variable {h : Hh} {Q : QV} {l : Nat} {xs : List PV} {y : PV}
theorem toDs_get {xs : List PV} {j : Nat} {z : PyData} (h : (toDs xs)[j]? = some z) : ∃ x, xs[j]? = some x ∧ z = toD x := by
  rw [toDs_map, List.getElem?_map] at h
  cases hx : xs[j]? with
  | none => rw [hx] at h; cases h
  | some x => rw [hx] at h; exact ⟨x, rfl, (Option.some.inj h).symm⟩
theorem plain_at : ∀ {xs : List PV} {x : PV}, plainAll xs = true → x ∈ xs → PyA.plain x = true
  | [], _, _, h => by cases h
  | y :: xs, x, hp, h => by
    have hp' : PyA.plain y = true ∧ plainAll xs = true := by simpa [plainAll] using hp
    rcases List.mem_cons.mp h with e | e
    · rw [e]; exact hp'.1
    · exact plain_at hp'.2 e
theorem index_pl (hl : h[l]? = some (.lst xs)) (hx : plainAll xs = true) (hd : pdeps xs ≤ 60) (hy : Pl y) {j : Nat} {z : PV} (hj : xs[j]? = some z) (hz : bare z = bare y) (hn : ∀ (m : Nat) (z' : PV), m < j → xs[m]? = some z' → bare z' ≠ bare y) (q : Q (.int (j : Nat)) h) : mIndex.run (.loc l) [y] h Q := by
  refine ⟨l, y, 64, toD y, toDs xs, j, toD z, rfl, rfl, dat_lst hl hx hd, dat_plain 64 y hy.1 hy.2, shaped_lst hx hd, shaped_plain hy.1 hy.2, by rw [toDs_map, List.getElem?_map, hj]; rfl, (eqv_plain z y (plain_at hx (List.mem_of_getElem? hj)) hy.1).mpr hz, fun m z' hm hz' => ?_, q⟩
  obtain ⟨x, h1, h2⟩ := toDs_get hz'
  rw [h2]
  cases hc : PyData.eqv (toD x) (toD y) with
  | false => rfl
  | true => exact absurd ((eqv_plain x y (plain_at hx (List.mem_of_getElem? h1)) hy.1).mp hc) (hn m x hm h1)
theorem before_idxOf {α : Type} [BEq α] [LawfulBEq α] {x z : α} : ∀ {l : List α} {m : Nat}, m < l.idxOf x → l[m]? = some z → z ≠ x
  | [], m, _, hz, _ => by simp at hz
  | a :: l, 0, hm, hz, e => by
    simp at hz
    subst hz e
    simp at hm
  | a :: l, m + 1, hm, hz, e => by
    rw [List.idxOf_cons] at hm
    cases h : a == x with
    | true => rw [h] at hm; simp at hm
    | false =>
      rw [h] at hm
      simp only [cond_false] at hm
      exact before_idxOf (l := l) (m := m) (by omega) (by simpa using hz) e
theorem index_nums {r : List Nat} {n : Nat} (hl : h[l]? = some (.lst (nums r))) (hn : n ∈ r) (q : Q (.int (r.idxOf n : Nat)) h) : mIndex.run (.loc l) [.int (n : Nat)] h Q := by
  have hp := plain_nums r
  have hlt := List.idxOf_lt_length_iff.mpr hn
  refine index_pl hl hp.1 (by omega) pl_int (j := r.idxOf n) (z := .int (n : Nat)) ?_ rfl ?_ q
  · unfold nums
    rw [List.getElem?_map, List.getElem?_eq_getElem hlt, List.getElem_idxOf hlt]; rfl
  · intro m z' hm hz e
    unfold nums at hz
    rw [List.getElem?_map] at hz
    cases hq : r[m]? with
    | none => rw [hq] at hz; cases hz
    | some a =>
      rw [hq] at hz
      cases hz
      simp only [bare, PV.int.injEq] at e
      exact before_idxOf hm hq (by omega)
theorem index_rows {rs : List (List Nat)} {r : List Nat} (hl : h[l]? = some (.lst (rs.map encR))) (hn : r ∈ rs) (q : Q (.int (rs.idxOf r : Nat)) h) : mIndex.run (.loc l) [encR r] h Q := by
  have hp := plain_rows rs
  have hlt := List.idxOf_lt_length_iff.mpr hn
  refine index_pl hl hp.1 (by omega) (pl_row r) (j := rs.idxOf r) (z := encR r) ?_ rfl ?_ q
  · rw [List.getElem?_map, List.getElem?_eq_getElem hlt, List.getElem_idxOf hlt]; rfl
  · intro m z' hm hz e
    rw [List.getElem?_map] at hz
    cases hq : rs[m]? with
    | none => rw [hq] at hz; cases hz
    | some a =>
      rw [hq] at hz
      cases hz
      rw [bare_row, bare_row] at e
      exact before_idxOf hm hq (encR_inj e)
end
theorem tupix_pl {h : Hh} {xs : List PV} {y : PV} {Q : QV} {j : Nat} {z : PV} (hx : plainAll xs = true) (hd : pdeps xs ≤ 60) (hy : Pl y) (hj : xs[j]? = some z) (hz : bare z = bare y) (hn : ∀ (m : Nat) (z' : PV), m < j → xs[m]? = some z' → bare z' ≠ bare y) (q : Q (.int (j : Nat)) h) :
    TupIx xs y h Q := by
  refine ⟨64, toD y, toDs xs, j, toD z, mapM_dat (dat_plains 64 xs hx (by omega)), dat_plain 64 y hy.1 hy.2, shaped_lst hx hd, shaped_plain hy.1 hy.2, by rw [toDs_map, List.getElem?_map, hj]; rfl, (eqv_plain z y (plain_at hx (List.mem_of_getElem? hj)) hy.1).mpr hz, fun m z' hm hz' => ?_, q⟩
  obtain ⟨x, h1, h2⟩ := toDs_get hz'
  rw [h2]
  cases hc : PyData.eqv (toD x) (toD y) with
  | false => rfl
  | true => exact absurd ((eqv_plain x y (plain_at hx (List.mem_of_getElem? h1)) hy.1).mp hc) (hn m x hm h1)
/-! ### len(set(..)) -/
theorem many_eq (r : List Nat) : PyN.manyI (r.map fun n => ((n : Nat) : Int)) = Mx.many r := by
  have e1 : PyN.manyI (r.map fun n => ((n : Nat) : Int)) = ((r.map fun n => ((n : Nat) : Int)).foldl PyProof.Rows.step_dedup []).length := by
    unfold PyN.manyI PyProof.Rows.firstMet
    congr 2
    apply List.ext_getElem
    · simp
    · intro i h1 h2
      simp at h1
      simp [h1]
  have : ∀ (r f : List Nat), (r.map fun n => ((n : Nat) : Int)).foldl PyProof.Rows.step_dedup (f.map fun n => ((n : Nat) : Int)) = (Mx.addNew f r).map fun n => ((n : Nat) : Int) := by
    intro r
    induction r with
    | nil => intro f; rfl
    | cons n r ih =>
      intro f
      rw [List.map_cons, List.foldl_cons, Mx.addNew_cons]
      have : PyProof.Rows.step_dedup (f.map fun n => ((n : Nat) : Int)) (n : Int) = (if n ∈ f then f else f ++ [n]).map fun n => ((n : Nat) : Int) := by
        unfold PyProof.Rows.step_dedup
        by_cases h : n ∈ f
        · rw [if_pos h, if_pos]
          rw [List.any_eq_true]
          exact ⟨(n : Int), List.mem_map.mpr ⟨n, h, rfl⟩, by simp⟩
        · rw [if_neg h, if_neg]
          · simp
          · rw [List.any_eq_true]
            rintro ⟨z, hz, e⟩
            obtain ⟨m, hm, rfl⟩ := List.mem_map.mp hz
            have e : ((m : Nat) : Int) = (n : Nat) := by simpa using e
            have : m = n := by omega
            exact h (this ▸ hm)
      rw [this]
      exact ih _
  have h2 := this r []
  rw [List.map_nil] at h2
  rw [e1, h2]
  simp [Mx.many]
end PyA
end
section
set_option Elab.async false
set_option linter.all false
set_option maxRecDepth 100000
set_option maxHeartbeats 4000000
/-! PyY: rules that keep long bodies folded (the kernel compares them by their parts) -/
namespace PyA
open PySem L2
section
variable {g : AG} {A B : AS} {ok : Hh → Prop} {D : AD} {e : Ev} {h : Hh} {Q : QV} {R : QX}
theorem w_FL {np n : Nat} {xs : List PV} {e : Ev} (l : xs.length = np) (he : xs.map some ++ List.replicate (n - xs.length) none = e) (P : AD → Prop) (hp : P { nx := fun _ h' => Q .non h', rt := Q, bk := fun _ _ => False, ct := fun _ _ => False, ex := fun x _ h' => R x h' })
    (q : ∀ D, P D → Later B D e h) : (mkF np n B).run xs h Q R := ⟨l, by rw [he]; exact q _ hp⟩
theorem later_any (P : AD → Prop) (hp : P D) (k : ∀ D, P D → Later B D e h) : Later B D e h := k D hp
theorem w_goS (q : A.run { D with nx := Later B D } e h) : Later (sSeq A B) D e h := q
/-- one statement, and what stands behind it -/
theorem later_seq (P : AD → Prop) (hp : P D) (k : ∀ D', D'.rt = D.rt → D'.ex = D.ex → D'.bk = D.bk → D'.ct = D.ct → D'.nx = Later B D → A.run D' e h) : Later (sSeq A B) D e h := k { D with nx := Later B D } rfl rfl rfl rfl rfl
theorem for_rngL {lo : Int} {n : Nat} (I : Nat → Ev → Hh → Prop) (h0 : I 0 e h)
    (step : ∀ i, i < n → ∀ e h, I i e h → ∀ D' : AD, D'.rt = D.rt → (∀ e h, I (i + 1) e h → D'.nx e h) → g.run (.int (lo + (i : Nat))) e h fun e1 h1 => Later B D' e1 h1)
    (fin : ∀ e h, I n e h → D.nx e h) : loopF g B (rngI lo n).ok D (rngI lo n).items e h :=
  for_rng I h0 (fun i hi e h q => step i hi e h q { D with nx := I (i + 1), ct := I (i + 1), bk := D.nx } rfl fun _ _ q => q) fin
end
end PyA
end
section
set_option Elab.async false
set_option linter.all false
set_option maxRecDepth 100000
set_option maxHeartbeats 4000000

/-! what the defs do, as combinators (printed by gen.py) -/
namespace K92
open PySem L2 PySem.Spec PyProof.Rows NdefX PyA
def top (i : Nat) : Stmt := PySem.Challenge.pw_watchcode_k92_whole_first_rows_and_place.main.body.getD i (.Pass ⟨0, 0, 0, 0⟩)
def kt : List (Tag × Tag × Bool) := [(.bi "NoneType", .own "BadNumber", false), (.bi "bool", .own "BadNumber", false), (.bi "dict", .own "BadNumber", false), (.bi "int", .own "BadNumber", false), (.bi "list", .own "BadNumber", false), (.bi "str", .own "BadNumber", false), (.bi "tuple", .own "BadNumber", false), (.own "Watch", .own "BadNumber", false), (.own "BadMoves", .own "BadNumber", false), (.own "BadNumber", .own "BadNumber", true), (.own "BadRow", .own "BadNumber", false), (.own "BadWords", .own "BadNumber", false), (.own "NoWatch", .own "BadNumber", false), (.bi "NoneType", .own "NoWatch", false), (.bi "bool", .own "NoWatch", false), (.bi "dict", .own "NoWatch", false), (.bi "int", .own "NoWatch", false), (.bi "list", .own "NoWatch", false), (.bi "str", .own "NoWatch", false), (.bi "tuple", .own "NoWatch", false), (.own "Watch", .own "NoWatch", false), (.own "BadMoves", .own "NoWatch", false), (.own "BadNumber", .own "NoWatch", false), (.own "BadRow", .own "NoWatch", false), (.own "BadWords", .own "NoWatch", false), (.own "NoWatch", .own "NoWatch", true), (.bi "NoneType", .own "Watch", false), (.bi "bool", .own "Watch", false), (.bi "dict", .own "Watch", false), (.bi "int", .own "Watch", false), (.bi "list", .own "Watch", false), (.bi "str", .own "Watch", false), (.bi "tuple", .own "Watch", false), (.own "Watch", .own "Watch", true), (.own "BadMoves", .own "Watch", false), (.own "BadNumber", .own "Watch", false), (.own "BadRow", .own "Watch", false), (.own "BadWords", .own "Watch", false), (.own "NoWatch", .own "Watch", false), (.bi "NoneType", .bi "bool", false), (.bi "bool", .bi "bool", true), (.bi "dict", .bi "bool", false), (.bi "int", .bi "bool", false), (.bi "list", .bi "bool", false), (.bi "str", .bi "bool", false), (.bi "tuple", .bi "bool", false), (.own "Watch", .bi "bool", false), (.own "BadMoves", .bi "bool", false), (.own "BadNumber", .bi "bool", false), (.own "BadRow", .bi "bool", false), (.own "BadWords", .bi "bool", false), (.own "NoWatch", .bi "bool", false), (.bi "NoneType", .bi "int", false), (.bi "bool", .bi "int", true), (.bi "dict", .bi "int", false), (.bi "int", .bi "int", true), (.bi "list", .bi "int", false), (.bi "str", .bi "int", false), (.bi "tuple", .bi "int", false), (.own "Watch", .bi "int", false), (.own "BadMoves", .bi "int", false), (.own "BadNumber", .bi "int", false), (.own "BadRow", .bi "int", false), (.own "BadWords", .bi "int", false), (.own "NoWatch", .bi "int", false), (.bi "NoneType", .bi "list", false), (.bi "bool", .bi "list", false), (.bi "dict", .bi "list", false), (.bi "int", .bi "list", false), (.bi "list", .bi "list", true), (.bi "str", .bi "list", false), (.bi "tuple", .bi "list", false), (.own "Watch", .bi "list", false), (.own "BadMoves", .bi "list", false), (.own "BadNumber", .bi "list", false), (.own "BadRow", .bi "list", false), (.own "BadWords", .bi "list", false), (.own "NoWatch", .bi "list", false), (.bi "NoneType", .bi "tuple", false), (.bi "bool", .bi "tuple", false), (.bi "dict", .bi "tuple", false), (.bi "int", .bi "tuple", false), (.bi "list", .bi "tuple", false), (.bi "str", .bi "tuple", false), (.bi "tuple", .bi "tuple", true), (.own "Watch", .bi "tuple", false), (.own "BadMoves", .bi "tuple", false), (.own "BadNumber", .bi "tuple", false), (.own "BadRow", .bi "tuple", false), (.own "BadWords", .bi "tuple", false), (.own "NoWatch", .bi "tuple", false)]
def ci : List Str := ["Watch"]
def ce : List Str := ["BadMoves", "BadNumber", "BadRow", "BadWords", "NoWatch"]
def et_WatchError : List (Str × Bool) := [("BadMoves", true), ("BadNumber", true), ("BadRow", true), ("BadWords", true), ("NoWatch", true)]
abbrev st__law_begun : Stmt := top 44
/-- 0 script, 1 large, 2 grain -/
def W__law_begun : AF := mkF 1 3 (sSeq (sAsg (aLc (itS (aVar 0)) (gNm 2) (aTB (aO2 (oGe) (aON (nF1 fAbs) (aCons (aVar 2) (aNil))) (aO2 oPow (aC (.int 10)) (aC (.int 18))))) (aO2 oSub (aON (nF1 fAbs) (aCons (aVar 2) (aNil))) (aO2 oPow (aC (.int 10)) (aC (.int 18)))) [2]) (gNm 1)) (sRet (aDisp (apCons (aC (.str "large")) (aVar 1) (apCons (aC (.str "rest")) (aC (.int 0)) (apCons (aC (.str "cells")) (aLc (itS (aVar 0)) (gNm 2) (tYs) (aON (nF1 fAbs) (aCons (aVar 2) (aNil))) [2]) (apCons (aC (.str "turn")) (aC (.int 0)) (apNil))))))))
abbrev st__law_caught : Stmt := top 48
/-- 0 work, 1 found, 2 error -/
def W__law_caught (Φ : PhiT) : AF := mkF 1 3 (sSeq (sAsg (aC .non) (gNm 1)) (sSeq (sTryK et_WatchError 2 1 (sExp (aCallP 0 Φ aNil))) (sRet (aVar 1))))
abbrev st__law_counted : Stmt := top 57
/-- 0 watch, 1 length, 2 line, 3 found, 4 lap, 5 later, 6 place, 7 goal -/
def W__law_counted : AF := mkF 2 8 (sSeq (sPar 2 3 (aCons (aON (nDictP) (aCons (aLst (aCons (aTup (aCons (aC (.int 0)) (aCons (aC (.int 1)) (aNil)))) (aNil))) (aNil))) (aCons (aLst (aCons (aC (.int 0)) (aCons (aC (.int 0)) (aCons (aC (.int 0)) (aCons (aC (.int 0)) (aNil)))))) (aNil)))) (sSeq (sFor (itR1 (aCons (aVar 1) (aNil))) (gNm 4) (sSeq (sAsg (aDic0) (gNm 5)) (sSeq (sLock (sFor (itK (aVar 2)) (gNm 6) (sFor (itS (aO2 oIx (aO2 oIx (aVar 0) (aC (.int 0))) (aVar 6))) (gNm 7) (sAsg (aO2 oAdd (aMt "dict" mGet (aVar 5) (aCons (aVar 7) (aCons (aC (.int 0)) (aNil)))) (aO2 oIx (aVar 2) (aVar 6))) (gIx (aVar 5) (aVar 7)))))) (sAsg (aVar 5) (gNm 2))))) (sSeq (sLock (sFor (itK (aVar 2)) (gNm 6) (sAsg (aO2 oAdd (aO2 oIx (aVar 3) (aO2 oIx (aO2 oIx (aVar 0) (aC (.int 1))) (aVar 6))) (aO2 oIx (aVar 2) (aVar 6))) (gIx (aVar 3) (aO2 oIx (aO2 oIx (aVar 0) (aC (.int 1))) (aVar 6)))))) (sRet (aON (nTuple) (aCons (aVar 3) (aNil)))))))
abbrev st__law_blend : Stmt := top 45
/-- 0 tape, 1 turn, 2 found, 3 great, 4 blended, 5 grain -/
def W__law_blend : AF := mkF 1 6 (sSeq (sAsg (aO2 oAdd (aO2 oIx (aVar 0) (aC (.str "turn"))) (aC (.int 1))) (gIx (aVar 0) (aC (.str "turn")))) (sSeq (sPar 1 2 (aCons (aON (nF1 fInt) (aCons (aO2 oIx (aVar 0) (aC (.str "turn"))) (aNil))) (aCons (aC (.int 0)) (aNil)))) (sSeq (sFor (itS (aLst (aCons (aC (.int 2147483629)) (aCons (aC (.int 2147483587)) (aCons (aC (.int 2147483579)) (aNil)))))) (gNm 3) (sSeq (sAsg (aO2 oMod (aO2 oAdd (aO2 oMulAll (aVar 1) (aC (.int 69621))) (aO2 oFdiv (aVar 3) (aC (.int 7)))) (aVar 3)) (gNm 4)) (sSeq (sFor (itS (aO2 oIx (aVar 0) (aC (.str "cells")))) (gNm 5) (sAsg (aO2 oMod (aO2 oAdd (aO2 oMulAll (aVar 4) (aC (.int 48271))) (aON (nF1 fInt) (aCons (aVar 5) (aNil)))) (aVar 3)) (gNm 4))) (sAsg (aO2 oAdd (aO2 oMulAll (aVar 2) (aC (.int 2147483647))) (aO2 oMod (aO2 oPow (aVar 4) (aC (.int 5))) (aVar 3))) (gNm 2))))) (sRet (aVar 2)))))
abbrev st__law_draw : Stmt := top 46
/-- 0 tape, 1 size, 2 found -/
def W__law_draw : AF := mkF 2 3 (sSeq (sIf (aTB (aO2 (oEq) (aO2 oIx (aVar 0) (aC (.str "rest"))) (aC (.int 0)))) (sAsg (aIfE (aTB (aO2 (oNe) (aO2 oIx (aVar 0) (aC (.str "large"))) (aLst (aNil)))) (aMt "list" mPopAt (aO2 oIx (aVar 0) (aC (.str "large"))) (aCons (aC (.int 0)) (aNil))) (aCall W__law_blend [] (aCons (aVar 0) (aNil)))) (gIx (aVar 0) (aC (.str "rest")))) (sSkip)) (sSeq (sAsg (aO2 oMod (aON (nF1 fInt) (aCons (aO2 oIx (aVar 0) (aC (.str "rest"))) (aNil))) (aVar 1)) (gNm 2)) (sSeq (sAsg (aO2 oFdiv (aON (nF1 fInt) (aCons (aO2 oIx (aVar 0) (aC (.str "rest"))) (aNil))) (aVar 1)) (gIx (aVar 0) (aC (.str "rest")))) (sRet (aVar 2)))))
abbrev st__law_first_rows : Stmt := top 56
/-- 0 watch, 1 found, 2 line, 3 seen, 4 lap, 5 row, 6 place, 7 later, 8 kind, 9 goal -/
def W__law_first_rows : AF := mkF 1 10 (sSeq (sPar3 1 2 3 (aCons (aLst (aCons (aC .non) (aCons (aC .non) (aCons (aC .non) (aCons (aC .non) (aNil)))))) (aCons (aLst (aCons (aTup (aCons (aTup (aNil)) (aCons (aC (.int 0)) (aNil)))) (aNil))) (aCons (aLst (aCons (aC (.int 0)) (aNil))) (aNil))))) (sSeq (sFor (itR1 (aCons (aC (.int 7)) (aNil))) (gNm 4) (sSeq (sFor (itS (aVar 2)) (gTpn 2 (gCons (gNm 5) (gCons (gNm 6) (gNil)))) (sIf (aTB (aO2 (oIsN) (aO2 oIx (aVar 1) (aO2 oIx (aO2 oIx (aVar 0) (aC (.int 1))) (aVar 6))) (aC .non))) (sAsg (aVar 5) (gIx (aVar 1) (aO2 oIx (aO2 oIx (aVar 0) (aC (.int 1))) (aVar 6)))) (sSkip))) (sSeq (sAsg (aLst (aNil)) (gNm 7)) (sSeq (sFor (itS (aVar 2)) (gTpn 2 (gCons (gNm 5) (gCons (gNm 6) (gNil)))) (sFor (itEn (aCons (aO2 oIx (aO2 oIx (aVar 0) (aC (.int 0))) (aVar 6)) (aNil))) (gTpn 2 (gCons (gNm 8) (gCons (gNm 9) (gNil)))) (sIf (aTB (aO2 (oNotInAll) (aVar 9) (aVar 3))) (sSeq (sExp (aMt "list" mAppend (aVar 3) (aCons (aVar 9) (aNil)))) (sExp (aMt "list" mAppend (aVar 7) (aCons (aTup (aCons (aO2 oAdd (aVar 5) (aTup (aCons (aVar 8) (aNil)))) (aCons (aVar 9) (aNil)))) (aNil))))) (sSkip)))) (sAsg (aVar 7) (gNm 2)))))) (sRet (aTup (aCons (aON (nTupleF) (aCons (aVar 1) (aNil))) (aCons (aON (nTuple) (aCons (aON (nSort) (aCons (aVar 3) (aNil))) (aNil))) (aNil)))))))
abbrev st__law_watch : Stmt := top 49
/-- 0 tape, 1 places, 2 kinds, 3 words, 4 many, 5 moves, 6 place, 7 kind -/
def W__law_watch : AF := mkF 4 8 (sSeq (sAsg (aO2 oAdd (aC (.int 1)) (aCall W__law_draw [] (aCons (aVar 0) (aCons (aVar 1) (aNil))))) (gNm 4)) (sSeq (sAsg (aON (nTuple) (aCons (aLc (itR1 (aCons (aVar 4) (aNil))) (gNm 6) (tYs) (aON (nTuple) (aCons (aLc (itR1 (aCons (aVar 2) (aNil))) (gNm 7) (tYs) (aCall W__law_draw [] (aCons (aVar 0) (aCons (aVar 4) (aNil)))) [7]) (aNil))) [6]) (aNil))) (gNm 5)) (sRet (aTup (aCons (aVar 5) (aCons (aON (nTuple) (aCons (aLc (itR1 (aCons (aVar 4) (aNil))) (gNm 6) (tYs) (aCall W__law_draw [] (aCons (aVar 0) (aCons (aVar 3) (aNil)))) [6]) (aNil))) (aNil)))))))
abbrev st__law_form : Stmt := top 55
/-- 0 tape, 1 places, 2 way, 3 kinds, 4 many, 5 moves, 6 spot, 7 kind -/
def W__law_form : AF := mkF 2 8 (sSeq (sAsg (aTup (aCons (aCall W__law_draw [] (aCons (aVar 0) (aCons (aC (.int 6)) (aNil)))) (aCons (aO2 oAdd (aC (.int 1)) (aCall W__law_draw [] (aCons (aVar 0) (aCons (aC (.int 3)) (aNil))))) (aNil)))) (gTpn 2 (gCons (gNm 2) (gCons (gNm 3) (gNil))))) (sSeq (sIf (aTB (aO2 (oEq) (aVar 2) (aC (.int 0)))) (sSeq (sAsg (aO2 oAdd (aC (.int 2)) (aCall W__law_draw [] (aCons (aVar 0) (aCons (aO2 oSub (aVar 1) (aC (.int 1))) (aNil))))) (gNm 4)) (sSeq (sAsg (aON (nTuple) (aCons (aLc (itR1 (aCons (aVar 4) (aNil))) (gNm 6) (tYs) (aON (nTuple) (aCons (aLc (itR1 (aCons (aVar 3) (aNil))) (gNm 7) (tYs) (aON (nI2 fun i j => if j < i then j else i) (aCons (aO2 oAdd (aVar 6) (aCall W__law_draw [] (aCons (aVar 0) (aCons (aC (.int 2)) (aNil))))) (aCons (aO2 oSub (aVar 4) (aC (.int 1))) (aNil)))) [7]) (aNil))) [6]) (aNil))) (gNm 5)) (sRet (aTup (aCons (aVar 5) (aCons (aON (nTuple) (aCons (aLc (itR1 (aCons (aVar 4) (aNil))) (gNm 6) (tYs) (aCall W__law_draw [] (aCons (aVar 0) (aCons (aC (.int 2)) (aNil)))) [6]) (aNil))) (aNil))))))) (sSkip)) (sSeq (sIf (aTB (aO2 (oEq) (aVar 2) (aC (.int 1)))) (sSeq (sAsg (aO2 oAdd (aC (.int 2)) (aCall W__law_draw [] (aCons (aVar 0) (aCons (aO2 oSub (aVar 1) (aC (.int 1))) (aNil))))) (gNm 4)) (sSeq (sAsg (aON (nTuple) (aCons (aLc (itR1 (aCons (aVar 4) (aNil))) (gNm 6) (tYs) (aON (nTuple) (aCons (aLc (itR1 (aCons (aVar 3) (aNil))) (gNm 7) (tYs) (aO2 oMod (aON (nF1 fInt) (aCons (aO2 oAdd (aO2 oAdd (aVar 6) (aC (.int 1))) (aCall W__law_draw [] (aCons (aVar 0) (aCons (aC (.int 2)) (aNil))))) (aNil))) (aVar 4)) [7]) (aNil))) [6]) (aNil))) (gNm 5)) (sRet (aTup (aCons (aVar 5) (aCons (aON (nTuple) (aCons (aLc (itR1 (aCons (aVar 4) (aNil))) (gNm 6) (tYs) (aCall W__law_draw [] (aCons (aVar 0) (aCons (aC (.int 3)) (aNil)))) [6]) (aNil))) (aNil))))))) (sSkip)) (sRet (aCall W__law_watch [] (aCons (aVar 0) (aCons (aVar 1) (aCons (aVar 3) (aCons (aIfE (aTB (aO2 (oLt) (aVar 2) (aC (.int 4)))) (aC (.int 2)) (aC (.int 3))) (aNil))))))))))
abbrev st_first_wrong : Stmt := top 17
/-- 0 several, 1 fits, 2 index, 3 item -/
def W_first_wrong (Φ : PhiT) : AF := mkF 2 4 (sSeq (sFor (itEn (aCons (aVar 0) (aNil))) (gTpn 2 (gCons (gNm 2) (gCons (gNm 3) (gNil)))) (sIf (aTNot (aTB (aCallP 1 Φ (aCons (aVar 3) (aNil))))) (sRet (aVar 2)) (sSkip))) (sRet (aC .non)))
abbrev st_is_list : Stmt := top 12
/-- 0 thing -/
def W_is_list : AF := mkF 1 1 (sRet (aON (nIsi kt ci ce) (aCons (aVar 0) (aCons (aTup (aCons (aC (.ty "list")) (aCons (aC (.ty "tuple")) (aNil)))) (aNil)))))
abbrev st_ItemError_init : Stmt := (clsBody (top 3)).getD 0 (.Pass ⟨0, 0, 0, 0⟩)
abbrev st_is_number : Stmt := top 10
/-- 0 thing -/
def W_is_number : AF := mkF 1 1 (sRet (aAnd (aON (nIsi kt ci ce) (aCons (aVar 0) (aCons (aC (.ty "int")) (aNil)))) (aNot (aON (nIsi kt ci ce) (aCons (aVar 0) (aCons (aC (.ty "bool")) (aNil)))))))
abbrev st_is_between : Stmt := top 11
/-- 0 thing, 1 low, 2 high -/
def W_is_between : AF := mkF 3 3 (sRet (aAnd (aCall W_is_number [] (aCons (aVar 0) (aNil))) (aChain (oLe) (oLe) (aVar 1) (aVar 0) (aVar 2))))
abbrev st_is_line : Stmt := top 24
/-- 0 thing, 1 kinds, 2 places, 3 item -/
def W_is_line : AF := mkF 3 4 (sSeq (sIf (aTOr (aTNot (aTB (aCall W_is_list [] (aCons (aVar 0) (aNil))))) (aTB (aO2 (oNe) (aON (nLen) (aCons (aVar 0) (aNil))) (aVar 1)))) (sRet (aC (.bl false))) (sSkip)) (sRet (aON (nLB fun bs => bs.all id) (aCons (aLc (itS (aVar 0)) (gNm 3) (tYs) (aCall W_is_between [] (aCons (aVar 3) (aCons (aC (.int 0)) (aCons (aO2 oSub (aVar 2) (aC (.int 1))) (aNil))))) [3]) (aNil)))))
abbrev st_need_moves : Stmt := top 25
def e_need_moves_lam0 : Expr := ((exE ((stE ((defBody st_need_moves).getD 3 sNo)).getD 1 eNo)).getD 2 eNo)
def d_need_moves_lam0 : LamD := ⟨(envOfC "need_moves" (defScope st_need_moves) 0 0 .none).qual ++ "<lambda>", lamA e_need_moves_lam0, lamB e_need_moves_lam0, lamS e_need_moves_lam0⟩
def B_need_moves_lam0 : AE := aCall W_is_line [] (aCons (aVar 0) (aCons (aON (nLen) (aCons (aVar 1) (aNil))) (aCons (aON (nLen) (aCons (aVar 2) (aNil))) (aNil))))
def L_need_moves_lam0 (ys : List PV) : AF := mkL 1 3 ys B_need_moves_lam0
/-- 0 moves, 1 first, 2 index -/
def W_need_moves : AF := mkF 1 3 (sSeq (sIf (aTOr (aTNot (aTB (aCall W_is_list [] (aCons (aVar 0) (aNil))))) (aTNot (aTB (aChain (oLe) (oLe) (aC (.int 1)) (aON (nLen) (aCons (aVar 0) (aNil))) (aC (.int 6)))))) (sRaise1 "BadMoves" "index" (aC .non)) (sSkip)) (sSeq (sAsg (aO2 oIx (aVar 0) (aC (.int 0))) (gNm 1)) (sSeq (sIf (aTOr (aTNot (aTB (aCall W_is_list [] (aCons (aVar 1) (aNil))))) (aTNot (aTB (aChain (oLe) (oLe) (aC (.int 1)) (aON (nLen) (aCons (aVar 1) (aNil))) (aC (.int 4)))))) (sRaise1 "BadMoves" "index" (aC (.int 0))) (sSkip)) (sSeq (sAsg (aCallL W_first_wrong pNo d_need_moves_lam0 [1, 0] L_need_moves_lam0 (aCons (aVar 0) aNil)) (gNm 2)) (sIf (aTB (aO2 (oNotN) (aVar 2) (aC .non))) (sRaise1 "BadMoves" "index" (aVar 2)) (sSkip))))))
abbrev st_is_word : Stmt := top 21
/-- 0 thing -/
def W_is_word : AF := mkF 1 1 (sRet (aCall W_is_between [] (aCons (aVar 0) (aCons (aC (.int 0)) (aCons (aC (.int 3)) (aNil))))))
abbrev st_need_words : Stmt := top 26
def Phi_is_word : PhiT := fun x F => (x = .gf "is_word" ∧ F = W_is_word)
/-- 0 words, 1 many, 2 index -/
def W_need_words : AF := mkF 2 3 (sSeq (sIf (aTOr (aTNot (aTB (aCall W_is_list [] (aCons (aVar 0) (aNil))))) (aTB (aO2 (oNe) (aON (nLen) (aCons (aVar 0) (aNil))) (aVar 1)))) (sRaise1 "BadWords" "index" (aC .non)) (sSkip)) (sSeq (sAsg (aCall (W_first_wrong Phi_is_word) [] (aCons (aVar 0) (aCons (aC (.gf "is_word")) (aNil)))) (gNm 2)) (sIf (aTB (aO2 (oNotN) (aVar 2) (aC .non))) (sRaise1 "BadWords" "index" (aVar 2)) (sSkip))))
abbrev st_Watch_init : Stmt := (clsBody (top 27)).getD 0 (.Pass ⟨0, 0, 0, 0⟩)
/-- 0 self, 1 moves, 2 words, 3 line -/
def W_Watch_init : AF := mkF 3 4 (sSeq (sExp (aCall W_need_moves [] (aCons (aVar 1) (aNil)))) (sSeq (sExp (aCall W_need_words [] (aCons (aVar 2) (aCons (aON (nLen) (aCons (aVar 1) (aNil))) (aNil))))) (sSeq (sFldA "Watch" "own_moves" (aVar 0) (aON (nTuple) (aCons (aLc (itS (aVar 1)) (gNm 3) (tYs) (aON (nTuple) (aCons (aVar 3) (aNil))) [3]) (aNil)))) (sFldA "Watch" "own_words" (aVar 0) (aON (nTuple) (aCons (aVar 2) (aNil)))))))
abbrev st__law_known : Stmt := top 53
/-- 0 falls -/
def W__law_known : AF := mkF 0 1 (sSeq (sAsg (aMake "Watch" W_Watch_init (aCons (aLst (aCons (aTup (aCons (aC (.int 0)) (aCons (aC (.int 1)) (aNil)))) (aCons (aTup (aCons (aC (.int 0)) (aCons (aC (.int 2)) (aNil)))) (aCons (aTup (aCons (aC (.int 2)) (aCons (aC (.int 2)) (aNil)))) (aNil))))) (aCons (aLst (aCons (aC (.int 0)) (aCons (aC (.int 0)) (aCons (aC (.int 1)) (aNil))))) (aNil)))) (gNm 0)) (sRet (aTup (aCons (aVar 0) (aCons (aMake "Watch" W_Watch_init (aCons (aLst (aCons (aTup (aCons (aC (.int 0)) (aCons (aC (.int 1)) (aNil)))) (aCons (aTup (aCons (aC (.int 0)) (aCons (aC (.int 1)) (aNil)))) (aNil)))) (aCons (aLst (aCons (aC (.int 0)) (aCons (aC (.int 1)) (aNil)))) (aNil)))) (aCons (aMake "Watch" W_Watch_init (aCons (aLst (aCons (aTup (aCons (aC (.int 1)) (aCons (aC (.int 2)) (aNil)))) (aCons (aTup (aCons (aC (.int 3)) (aCons (aC (.int 3)) (aNil)))) (aCons (aTup (aCons (aC (.int 3)) (aCons (aC (.int 3)) (aNil)))) (aCons (aTup (aCons (aC (.int 3)) (aCons (aC (.int 3)) (aNil)))) (aNil)))))) (aCons (aLst (aCons (aC (.int 0)) (aCons (aC (.int 0)) (aCons (aC (.int 0)) (aCons (aC (.int 1)) (aNil)))))) (aNil)))) (aNil)))))))
abbrev st__law_made : Stmt := top 50
/-- 0 watch, 1 goals -/
def W__law_made : AF := mkF 1 2 (sRet (aMake "Watch" W_Watch_init (aCons (aLc (itS (aO2 oIx (aVar 0) (aC (.int 0)))) (gNm 1) (tYs) (aON (nList) (aCons (aVar 1) (aNil))) [1]) (aCons (aON (nList) (aCons (aO2 oIx (aVar 0) (aC (.int 1))) (aNil))) (aNil)))))
abbrev st__law_pick : Stmt := top 47
/-- 0 tape, 1 several -/
def W__law_pick : AF := mkF 2 2 (sRet (aO2 oIx (aVar 1) (aCall W__law_draw [] (aCons (aVar 0) (aCons (aON (nLen) (aCons (aVar 1) (aNil))) (aNil))))))
abbrev st__law_place : Stmt := top 51
/-- 0 watch, 1 row, 2 place, 3 kind -/
def W__law_place : AF := mkF 2 4 (sSeq (sAsg (aC (.int 0)) (gNm 2)) (sSeq (sFor (itS (aVar 1)) (gNm 3) (sAsg (aO2 oIx (aO2 oIx (aO2 oIx (aVar 0) (aC (.int 0))) (aVar 2)) (aVar 3)) (gNm 2))) (sRet (aVar 2))))
abbrev st__law_row : Stmt := top 54
/-- 0 tape, 1 watch, 2 most, 3 item -/
def W__law_row : AF := mkF 3 4 (sRet (aON (nTuple) (aCons (aLc (itR1 (aCons (aCall W__law_draw [] (aCons (aVar 0) (aCons (aO2 oAdd (aVar 2) (aC (.int 1))) (aNil)))) (aNil))) (gNm 3) (tYs) (aCall W__law_draw [] (aCons (aVar 0) (aCons (aON (nLen) (aCons (aO2 oIx (aO2 oIx (aVar 1) (aC (.int 0))) (aC (.int 0))) (aNil))) (aNil)))) [3]) (aNil))))
abbrev st__law_small : Stmt := top 58
/-- 0 watch, 1 names, 2 lap, 3 keys, 4 line, 5 spots, 6 goal, 7 moves, 8 place, 9 key -/
def W__law_small : AF := mkF 1 10 (sSeq (sAsg (aON (nList) (aCons (aO2 oIx (aVar 0) (aC (.int 1))) (aNil))) (gNm 1)) (sSeq (sFor (itS (aO2 oIx (aVar 0) (aC (.int 1)))) (gNm 2) (sSeq (sAsg (aLc (itR1 (aCons (aON (nLen) (aCons (aVar 1) (aNil))) (aNil))) (gNm 8) (tYs) (aO2 oAdd (aTup (aCons (aO2 oIx (aVar 1) (aVar 8)) (aNil))) (aON (nTuple) (aCons (aLc (itS (aO2 oIx (aO2 oIx (aVar 0) (aC (.int 0))) (aVar 8))) (gNm 6) (tYs) (aO2 oIx (aVar 1) (aVar 6)) [6]) (aNil)))) [8]) (gNm 3)) (sAsg (aLc (itS (aVar 3)) (gNm 9) (tYs) (aMt "list" mIndex (aVar 3) (aCons (aVar 9) (aNil))) [9]) (gNm 1)))) (sSeq (sAsg (aTup (aCons (aLst (aCons (aC (.int 0)) (aNil))) (aCons (aLst (aCons (aO2 oIx (aVar 1) (aC (.int 0))) (aNil))) (aNil)))) (gTpn 2 (gCons (gNm 4) (gCons (gNm 5) (gNil))))) (sSeq (sFor (itR1 (aCons (aC (.int 6)) (aNil))) (gNm 2) (sIf (aTB (aO2 (oLt) (aVar 2) (aON (nLen) (aCons (aVar 4) (aNil))))) (sFor (itS (aO2 oIx (aO2 oIx (aVar 0) (aC (.int 0))) (aO2 oIx (aVar 4) (aVar 2)))) (gNm 6) (sIf (aTB (aO2 (oNotInAll) (aO2 oIx (aVar 1) (aVar 6)) (aVar 5))) (sSeq (sExp (aMt "list" mAppend (aVar 5) (aCons (aO2 oIx (aVar 1) (aVar 6)) (aNil)))) (sExp (aMt "list" mAppend (aVar 4) (aCons (aVar 6) (aNil))))) (sSkip))) (sSkip))) (sSeq (sAsg (aLc (itS (aVar 4)) (gNm 8) (tYs) (aON (nTuple) (aCons (aLc (itS (aO2 oIx (aO2 oIx (aVar 0) (aC (.int 0))) (aVar 8))) (gNm 6) (tYs) (aMt "list" mIndex (aVar 5) (aCons (aO2 oIx (aVar 1) (aVar 6)) (aNil))) [6]) (aNil))) [8]) (gNm 7)) (sRet (aMake "Watch" W_Watch_init (aCons (aVar 7) (aCons (aLc (itS (aVar 4)) (gNm 8) (tYs) (aO2 oIx (aO2 oIx (aVar 0) (aC (.int 1))) (aVar 8)) [8]) (aNil))))))))))
abbrev st__law_word : Stmt := top 52
/-- 0 watch, 1 row -/
def W__law_word : AF := mkF 2 2 (sRet (aO2 oIx (aO2 oIx (aVar 0) (aC (.int 1))) (aCall W__law_place [] (aCons (aVar 0) (aCons (aVar 1) (aNil))))))
abbrev st_found_places : Stmt := top 34
/-- 0 moves, 1 first, 2 found, 3 spot, 4 place -/
def W_found_places : AF := mkF 2 5 (sSeq (sPar 2 3 (aCons (aLst (aCons (aVar 1) (aNil))) (aCons (aC (.int 0)) (aNil)))) (sSeq (sWhile (aTB (aO2 (oLt) (aVar 3) (aON (nLen) (aCons (aVar 2) (aNil))))) (sSeq (sFor (itS (aO2 oIx (aVar 0) (aO2 oIx (aVar 2) (aVar 3)))) (gNm 4) (sIf (aTB (aO2 (oNotInAll) (aVar 4) (aVar 2))) (sExp (aMt "list" mAppend (aVar 2) (aCons (aVar 4) (aNil)))) (sSkip))) (sAsg (aO2 oAdd (aVar 3) (aC (.int 1))) (gNm 3)))) (sRet (aVar 2))))
abbrev st_numbered : Stmt := top 35
/-- 0 rows, 1 known, 2 found, 3 place, 4 row -/
def W_numbered : AF := mkF 1 5 (sSeq (sPar 1 2 (aCons (aDic0) (aCons (aDic0) (aNil)))) (sSeq (sLock (sFor (itKV (aVar 0)) (gTpn 2 (gCons (gNm 3) (gCons (gNm 4) (gNil)))) (sSeq (sIf (aTB (aO2 (oNotInAll) (aVar 4) (aVar 1))) (sAsg (aON (nLen) (aCons (aVar 1) (aNil))) (gIx (aVar 1) (aVar 4))) (sSkip)) (sAsg (aO2 oIx (aVar 1) (aVar 4)) (gIx (aVar 2) (aVar 3)))))) (sRet (aVar 2))))
abbrev st_marks_of : Stmt := top 36
/-- 0 moves, 1 words, 2 places, 3 marks, 4 many, 5 place, 6 goal -/
def W_marks_of : AF := mkF 3 7 (sSeq (sAsg (aCall W_numbered [] (aCons (aDc (itS (aVar 2)) (gNm 5) (tYs) (aVar 5) (aO2 oIx (aVar 1) (aVar 5)) [5]) (aNil))) (gNm 3)) (sSeq (sAsg (aC (.int 0)) (gNm 4)) (sSeq (sWhile (aTB (aO2 (oNe) (aVar 4) (aLenSet (aLc (itS (aVar 2)) (gNm 5) (tYs) (aO2 oIx (aVar 3) (aVar 5)) [5])))) (sSeq (sAsg (aLenSet (aLc (itS (aVar 2)) (gNm 5) (tYs) (aO2 oIx (aVar 3) (aVar 5)) [5])) (gNm 4)) (sAsg (aCall W_numbered [] (aCons (aDc (itS (aVar 2)) (gNm 5) (tYs) (aVar 5) (aTup (aCons (aO2 oIx (aVar 3) (aVar 5)) (aStar (aLc (itS (aO2 oIx (aVar 0) (aVar 5))) (gNm 6) (tYs) (aO2 oIx (aVar 3) (aVar 6)) [6]) (aNil)))) [5]) (aNil))) (gNm 3)))) (sRet (aVar 3)))))
abbrev st_least_tables : Stmt := top 37
/-- 0 moves, 1 words, 2 places, 3 marks, 4 heads, 5 place, 6 folded, 7 order, 8 found, 9 mark, 10 goal -/
def W_least_tables : AF := mkF 2 11 (sSeq (sAsg (aCall W_found_places [] (aCons (aVar 0) (aCons (aC (.int 0)) (aNil)))) (gNm 2)) (sSeq (sAsg (aCall W_marks_of [] (aCons (aVar 0) (aCons (aVar 1) (aCons (aVar 2) (aNil))))) (gNm 3)) (sSeq (sAsg (aDic0) (gNm 4)) (sSeq (sFor (itS (aVar 2)) (gNm 5) (sExp (aMt "dict" mSetd (aVar 4) (aCons (aO2 oIx (aVar 3) (aVar 5)) (aCons (aVar 5) (aNil)))))) (sSeq (sAsg (aLock (aDc (itKV (aVar 4)) (gTpn 2 (gCons (gNm 9) (gCons (gNm 5) (gNil)))) (tYs) (aVar 9) (aLc (itS (aO2 oIx (aVar 0) (aVar 5))) (gNm 10) (tYs) (aO2 oIx (aVar 3) (aVar 10)) [10]) [9, 5])) (gNm 6)) (sSeq (sAsg (aCall W_found_places [] (aCons (aVar 6) (aCons (aO2 oIx (aVar 3) (aC (.int 0))) (aNil)))) (gNm 7)) (sSeq (sAsg (aLc (itS (aVar 7)) (gNm 9) (tYs) (aON (nTuple) (aCons (aLc (itS (aO2 oIx (aVar 6) (aVar 9))) (gNm 10) (tYs) (aMt "list" mIndex (aVar 7) (aCons (aVar 10) (aNil))) [10]) (aNil))) [9]) (gNm 8)) (sRet (aTup (aCons (aVar 8) (aCons (aLc (itS (aVar 7)) (gNm 9) (tYs) (aO2 oIx (aVar 1) (aO2 oIx (aVar 4) (aVar 9))) [9]) (aNil))))))))))))
abbrev st_PartError_init : Stmt := (clsBody (top 2)).getD 0 (.Pass ⟨0, 0, 0, 0⟩)
abbrev st_need_watch : Stmt := top 28
/-- 0 watch, 1 part -/
def W_need_watch : AF := mkF 2 2 (sIf (aTNot (aTB (aON (nIsi kt ci ce) (aCons (aVar 0) (aCons (aC (.gf "Watch")) (aNil)))))) (sRaise1 "NoWatch" "part" (aVar 1)) (sSkip))
abbrev st_Watch_moves : Stmt := (clsBody (top 27)).getD 1 (.Pass ⟨0, 0, 0, 0⟩)
/-- 0 self -/
def W_Watch_moves : AF := mkF 1 1 (sRet (aFld "Watch" "own_moves" (aVar 0)))
abbrev st_Watch_words : Stmt := (clsBody (top 27)).getD 2 (.Pass ⟨0, 0, 0, 0⟩)
/-- 0 self -/
def W_Watch_words : AF := mkF 1 1 (sRet (aFld "Watch" "own_words" (aVar 0)))
abbrev st_least_watch : Stmt := top 38
/-- 0 watch, 1 moves, 2 words -/
def W_least_watch : AF := mkF 1 3 (sSeq (sExp (aCall W_need_watch [.non] (aCons (aVar 0) (aNil)))) (sSeq (sAsg (aCall W_least_tables [] (aCons (aProp "Watch" W_Watch_moves (aVar 0)) (aCons (aProp "Watch" W_Watch_words (aVar 0)) (aNil)))) (gTpn 2 (gCons (gNm 1) (gCons (gNm 2) (gNil))))) (sRet (aMake "Watch" W_Watch_init (aCons (aVar 1) (aCons (aVar 2) (aNil)))))))
abbrev st_led_from : Stmt := top 30
/-- 0 watch, 1 place, 2 row, 3 kind -/
def W_led_from : AF := mkF 3 4 (sSeq (sFor (itS (aVar 2)) (gNm 3) (sAsg (aO2 oIx (aO2 oIx (aProp "Watch" W_Watch_moves (aVar 0)) (aVar 1)) (aVar 3)) (gNm 1))) (sRet (aVar 1)))
abbrev st_is_short_list : Stmt := top 18
/-- 0 thing -/
def W_is_short_list : AF := mkF 1 1 (sRet (aAnd (aCall W_is_list [] (aCons (aVar 0) (aNil))) (aO2 (oLe) (aON (nLen) (aCons (aVar 0) (aNil))) (aC (.int 300)))))
abbrev st_need_row_of : Stmt := top 20
def e_need_row_of_lam0 : Expr := ((exE ((stE ((defBody st_need_row_of).getD 1 sNo)).getD 1 eNo)).getD 2 eNo)
def d_need_row_of_lam0 : LamD := ⟨(envOfC "need_row_of" (defScope st_need_row_of) 0 0 .none).qual ++ "<lambda>", lamA e_need_row_of_lam0, lamB e_need_row_of_lam0, lamS e_need_row_of_lam0⟩
def B_need_row_of_lam0 : AE := aCall W_is_between [] (aCons (aVar 0) (aCons (aC (.int 0)) (aCons (aO2 oSub (aVar 1) (aC (.int 1))) (aNil))))
def L_need_row_of_lam0 (ys : List PV) : AF := mkL 1 2 ys B_need_row_of_lam0
/-- 0 kinds, 1 row, 2 index -/
def W_need_row_of : AF := mkF 2 3 (sSeq (sIf (aTNot (aTB (aCall W_is_short_list [] (aCons (aVar 1) (aNil))))) (sRaise1 "BadRow" "index" (aC .non)) (sSkip)) (sSeq (sAsg (aCallL W_first_wrong pNo d_need_row_of_lam0 [0] L_need_row_of_lam0 (aCons (aVar 1) aNil)) (gNm 2)) (sIf (aTB (aO2 (oNotN) (aVar 2) (aC .non))) (sRaise1 "BadRow" "index" (aVar 2)) (sSkip))))
abbrev st_Watch_kinds : Stmt := (clsBody (top 27)).getD 3 (.Pass ⟨0, 0, 0, 0⟩)
/-- 0 self -/
def W_Watch_kinds : AF := mkF 1 1 (sRet (aON (nLen) (aCons (aO2 oIx (aFld "Watch" "own_moves" (aVar 0)) (aC (.int 0))) (aNil))))
abbrev st_need_row : Stmt := top 19
/-- 0 watch, 1 row -/
def W_need_row : AF := mkF 2 2 (sExp (aCall W_need_row_of [] (aCons (aProp "Watch" W_Watch_kinds (aVar 0)) (aCons (aVar 1) (aNil)))))
abbrev st_need_both : Stmt := top 29
/-- 0 watch, 1 row -/
def W_need_both : AF := mkF 2 2 (sSeq (sExp (aCall W_need_watch [.non] (aCons (aVar 0) (aNil)))) (sExp (aCall W_need_row [] (aCons (aVar 0) (aCons (aVar 1) (aNil))))))
abbrev st_place_behind : Stmt := top 31
/-- 0 watch, 1 row -/
def W_place_behind : AF := mkF 2 2 (sSeq (sExp (aCall W_need_both [] (aCons (aVar 0) (aCons (aVar 1) (aNil))))) (sRet (aCall W_led_from [] (aCons (aVar 0) (aCons (aC (.int 0)) (aCons (aVar 1) (aNil)))))))
abbrev st_places_reached : Stmt := top 39
/-- 0 watch -/
def W_places_reached : AF := mkF 1 1 (sSeq (sExp (aCall W_need_watch [.non] (aCons (aVar 0) (aNil)))) (sRet (aON (nTuple) (aCons (aON (nSort) (aCons (aCall W_found_places [] (aCons (aProp "Watch" W_Watch_moves (aVar 0)) (aCons (aC (.int 0)) (aNil)))) (aNil))) (aNil)))))
abbrev st_verdict_of : Stmt := top 32
/-- 0 watch, 1 row -/
def W_verdict_of : AF := mkF 2 2 (sSeq (sExp (aCall W_need_both [] (aCons (aVar 0) (aCons (aVar 1) (aNil))))) (sRet (aO2 oIx (aProp "Watch" W_Watch_words (aVar 0)) (aCall W_led_from [] (aCons (aVar 0) (aCons (aC (.int 0)) (aCons (aVar 1) (aNil))))))))
abbrev st_word_counts : Stmt := top 42
/-- 0 watch, 1 length, 2 many, 3 lap, 4 later, 5 place, 6 number, 7 goal, 8 found -/
def W_word_counts : AF := mkF 2 9 (sSeq (sExp (aCall W_need_watch [.non] (aCons (aVar 0) (aNil)))) (sSeq (sIf (aTNot (aTB (aCall W_is_between [] (aCons (aVar 1) (aCons (aC (.int 0)) (aCons (aC (.int 300)) (aNil))))))) (sRaise1 "BadNumber" "part" (aC (.str "length"))) (sSkip)) (sSeq (sAsg (aO2 oMulAll (aLst (aCons (aC (.int 0)) (aNil))) (aON (nLen) (aCons (aProp "Watch" W_Watch_moves (aVar 0)) (aNil)))) (gNm 2)) (sSeq (sAsg (aC (.int 1)) (gIx (aVar 2) (aC (.int 0)))) (sSeq (sFor (itR1 (aCons (aVar 1) (aNil))) (gNm 3) (sSeq (sAsg (aO2 oMulAll (aLst (aCons (aC (.int 0)) (aNil))) (aON (nLen) (aCons (aVar 2) (aNil)))) (gNm 4)) (sSeq (sFor (itEn (aCons (aVar 2) (aNil))) (gTpn 2 (gCons (gNm 5) (gCons (gNm 6) (gNil)))) (sFor (itS (aO2 oIx (aProp "Watch" W_Watch_moves (aVar 0)) (aVar 5))) (gNm 7) (sAsg (aO2 oAdd (aO2 oIx (aVar 4) (aVar 7)) (aVar 6)) (gIx (aVar 4) (aVar 7))))) (sAsg (aVar 4) (gNm 2))))) (sSeq (sAsg (aO2 oMulAll (aLst (aCons (aC (.int 0)) (aNil))) (aO2 oAdd (aC (.int 3)) (aC (.int 1)))) (gNm 8)) (sSeq (sFor (itEn (aCons (aVar 2) (aNil))) (gTpn 2 (gCons (gNm 5) (gCons (gNm 6) (gNil)))) (sAsg (aO2 oAdd (aO2 oIx (aVar 8) (aO2 oIx (aProp "Watch" W_Watch_words (aVar 0)) (aVar 5))) (aVar 6)) (gIx (aVar 8) (aO2 oIx (aProp "Watch" W_Watch_words (aVar 0)) (aVar 5))))) (sRet (aON (nTuple) (aCons (aVar 8) (aNil)))))))))))
abbrev st_shortest_rows : Stmt := top 40
/-- 0 watch, 1 found, 2 line, 3 spot, 4 kind, 5 place -/
def W_shortest_rows : AF := mkF 1 6 (sSeq (sPar3 1 2 3 (aCons (aDisp (apCons (aC (.int 0)) (aTup (aNil)) (apNil))) (aCons (aLst (aCons (aC (.int 0)) (aNil))) (aCons (aC (.int 0)) (aNil))))) (sSeq (sWhile (aTB (aO2 (oLt) (aVar 3) (aON (nLen) (aCons (aVar 2) (aNil))))) (sSeq (sFor (itEn (aCons (aO2 oIx (aProp "Watch" W_Watch_moves (aVar 0)) (aO2 oIx (aVar 2) (aVar 3))) (aNil))) (gTpn 2 (gCons (gNm 4) (gCons (gNm 5) (gNil)))) (sIf (aTB (aO2 (oNotInAll) (aVar 5) (aVar 1))) (sSeq (sAsg (aTup (aStar (aO2 oIx (aVar 1) (aO2 oIx (aVar 2) (aVar 3))) (aCons (aVar 4) (aNil)))) (gIx (aVar 1) (aVar 5))) (sExp (aMt "list" mAppend (aVar 2) (aCons (aVar 5) (aNil))))) (sSkip))) (sAsg (aO2 oAdd (aVar 3) (aC (.int 1))) (gNm 3)))) (sRet (aVar 1))))
abbrev st_word_rows : Stmt := top 41
/-- 0 watch, 1 rows, 2 found, 3 word, 4 several, 5 place -/
def W_word_rows : AF := mkF 1 6 (sSeq (sExp (aCall W_need_watch [.non] (aCons (aVar 0) (aNil)))) (sSeq (sAsg (aTup (aCons (aCall W_shortest_rows [] (aCons (aVar 0) (aNil))) (aCons (aLst (aNil)) (aNil)))) (gTpn 2 (gCons (gNm 1) (gCons (gNm 2) (gNil))))) (sSeq (sFor (itR1 (aCons (aO2 oAdd (aC (.int 3)) (aC (.int 1))) (aNil))) (gNm 3) (sSeq (sLock (sAsg (aLc (itK (aVar 1)) (gNm 5) (aTB (aO2 (oEq) (aO2 oIx (aProp "Watch" W_Watch_words (aVar 0)) (aVar 5)) (aVar 3))) (aTup (aCons (aON (nLen) (aCons (aO2 oIx (aVar 1) (aVar 5)) (aNil))) (aCons (aO2 oIx (aVar 1) (aVar 5)) (aNil)))) [5]) (gNm 4))) (sExp (aMt "list" mAppend (aVar 2) (aCons (aIfE (aTB (aO2 (oNe) (aVar 4) (aLst (aNil)))) (aO2 oIx (aMinD (aCons (aVar 4) (aNil))) (aC (.int 1))) (aC .non)) (aNil)))))) (sRet (aON (nTuple) (aCons (aVar 2) (aNil)))))))
abbrev st_Watch_eq : Stmt := (clsBody (top 27)).getD 4 (.Pass ⟨0, 0, 0, 0⟩)
/-- 0 self, 1 other -/
def W_Watch_eq : AF := mkF 2 2 (sRet (aAnd (aON (nIsi kt ci ce) (aCons (aVar 1) (aCons (aC (.gf "Watch")) (aNil)))) (aO2 (oEq) (aTup (aCons (aFld "Watch" "own_moves" (aVar 0)) (aCons (aFld "Watch" "own_words" (aVar 0)) (aNil)))) (aTup (aCons (aFld "Watch" "own_moves" (aVar 1)) (aCons (aFld "Watch" "own_words" (aVar 1)) (aNil)))))))
abbrev st_law : Stmt := top 59
def e_law_lam0 : Expr := ((exE ((stE ((stS ((defBody st_law).getD 1 sNo)).getD 11 sNo)).getD 1 eNo)).getD 3 eNo)
def d_law_lam0 : LamD := ⟨(envOfC "law" (defScope st_law) 0 0 .none).qual ++ "<lambda>", lamA e_law_lam0, lamB e_law_lam0, lamS e_law_lam0⟩
def B_law_lam0 : AE := aCall W_word_counts [] (aCons (aVar 0) (aCons (aC .non) (aNil)))
def L_law_lam0 (ys : List PV) : AF := mkL 1 1 ys B_law_lam0
def Phi_word_rows_places_reached_least_watch_law_lam0 : PhiT := fun x F => (x = .gf "word_rows" ∧ F = W_word_rows) ∨ (x = .gf "places_reached" ∧ F = W_places_reached) ∨ (x = .gf "least_watch" ∧ F = W_least_watch) ∨ (∃ f c, x = .clo d_law_lam0 f c [] [] [] ∧ F = L_law_lam0 [])
def e_law_lam1 : Expr := ((exE ((exE ((exE ((stE ((stS ((stS ((defBody st_law).getD 1 sNo)).getD 11 sNo)).getD 0 sNo)).getD 0 eNo)).getD 0 eNo)).getD 1 eNo)).getD 1 eNo)
def d_law_lam1 : LamD := ⟨(envOfC "law" (defScope st_law) 0 0 .none).qual ++ "<lambda>", lamA e_law_lam1, lamB e_law_lam1, lamS e_law_lam1⟩
def B_law_lam1 : AE := aCallP 0 Phi_word_rows_places_reached_least_watch_law_lam0 (aCons (aVar 1) (aNil))
def L_law_lam1 (ys : List PV) : AF := mkL 0 2 ys B_law_lam1
def e_law_lam2 : Expr := ((exE ((stE ((stS ((defBody st_law).getD 1 sNo)).getD 12 sNo)).getD 1 eNo)).getD 1 eNo)
def d_law_lam2 : LamD := ⟨(envOfC "law" (defScope st_law) 0 0 .none).qual ++ "<lambda>", lamA e_law_lam2, lamB e_law_lam2, lamS e_law_lam2⟩
def B_law_lam2 : AE := aCall W_word_counts [] (aCons (aVar 0) (aCons (aCall W__law_pick [] (aCons (aVar 1) (aCons (aLst (aCons (aC .non) (aCons (aNeg (aC (.int 1))) (aCons (aC (.int 301)) (aCons (aC (.bl true)) (aNil)))))) (aNil)))) (aNil)))
def L_law_lam2 (ys : List PV) : AF := mkL 0 2 ys B_law_lam2
/-- 0 script, 1 tape, 2 lap, 3 watch, 4 here, 5 length, 6 rows, 7 reached, 8 small, 9 row, 10 none, 11 work, 12 caught, 13 falls, 14 last, 15 three, 16 far, 17 one -/
def W_law : AF := mkF 1 18 (sSeq (sAsg (aCall W__law_begun [] (aCons (aVar 0) (aNil))) (gNm 1)) (sSeq (sFor (itR1 (aCons (aO2 oAdd (aC (.int 6)) (aON (nI2 fun i j => if j < i then j else i) (aCons (aON (nLen) (aCons (aVar 0) (aNil))) (aCons (aC (.int 10)) (aNil))))) (aNil))) (gNm 2) (sSeq (sAsg (aCall W__law_form [] (aCons (aVar 1) (aCons (aC (.int 6)) (aNil)))) (gNm 3)) (sSeq (sAsg (aTup (aCons (aCall W__law_made [] (aCons (aVar 3) (aNil))) (aCons (aCall W__law_draw [] (aCons (aVar 1) (aCons (aC (.int 9)) (aNil)))) (aNil)))) (gTpn 2 (gCons (gNm 4) (gCons (gNm 5) (gNil))))) (sSeq (sAsg (aCall W__law_first_rows [] (aCons (aVar 3) (aNil))) (gTpn 2 (gCons (gNm 6) (gCons (gNm 7) (gNil))))) (sSeq (sIf (aTOr (aTB (aO2 (oNe) (aCallK W_word_rows [0] 1 (aCons (aVar 4) (aNil))) (aVar 6))) (aTB (aO2 (oNe) (aCallK W_places_reached [0] 1 (aCons (aVar 4) (aNil))) (aVar 7)))) (sRet (aC (.bl false))) (sSkip)) (sSeq (sIf (aTOr (aTB (aO2 (oNe) (aCall W_word_counts [] (aCons (aVar 4) (aCons (aVar 5) (aNil)))) (aCall W__law_counted [] (aCons (aVar 3) (aCons (aVar 5) (aNil)))))) (aTB (aO2 (oNe) (aCallK W_word_counts [1, 0] 2 (aCons (aVar 5) (aCons (aVar 4) (aNil)))) (aCall W__law_counted [] (aCons (aVar 3) (aCons (aVar 5) (aNil))))))) (sRet (aC (.bl false))) (sSkip)) (sSeq (sAsg (aCall W_least_watch [] (aCons (aVar 4) (aNil))) (gNm 8)) (sSeq (sIf (aTOr (aTB (aO2 (oNeOwn "Watch" W_Watch_eq) (aVar 8) (aCall W__law_small [] (aCons (aVar 3) (aNil))))) (aTOr (aTB (aO2 (oNeOwn "Watch" W_Watch_eq) (aCall W_least_watch [] (aCons (aVar 8) (aNil))) (aVar 8))) (aTOr (aTB (aO2 (oNe) (aCall W_word_rows [] (aCons (aVar 8) (aNil))) (aVar 6))) (aTB (aO2 (oNe) (aCall W_places_reached [] (aCons (aVar 8) (aNil))) (aON (nTuple) (aCons (aRg1 (aON (nLen) (aCons (aProp "Watch" W_Watch_moves (aVar 8)) (aNil)))) (aNil)))))))) (sRet (aC (.bl false))) (sSkip)) (sSeq (sAsg (aCall W__law_row [] (aCons (aVar 1) (aCons (aVar 3) (aCons (aC (.int 9)) (aNil))))) (gNm 9)) (sSeq (sIf (aTOr (aTB (aO2 (oNe) (aCall W_verdict_of [] (aCons (aVar 8) (aCons (aVar 9) (aNil)))) (aCall W__law_word [] (aCons (aVar 3) (aCons (aVar 9) (aNil)))))) (aTB (aO2 (oNe) (aCall W_place_behind [] (aCons (aVar 4) (aCons (aON (nList) (aCons (aVar 9) (aNil))) (aNil)))) (aCall W__law_place [] (aCons (aVar 3) (aCons (aVar 9) (aNil))))))) (sRet (aC (.bl false))) (sSkip)) (sSeq (sIf (aTB (aO2 (oNe) (aLc (itS (aVar 6)) (gNm 17) (aTAnd (aTB (aO2 (oNotN) (aVar 17) (aC .non))) (aTB (aO2 (oNe) (aCall W__law_word [] (aCons (aVar 3) (aCons (aVar 17) (aNil)))) (aTupIx (aVar 6) (aVar 17))))) (aC (.int 1)) [17]) (aLst (aNil)))) (sRet (aC (.bl false))) (sSkip)) (sSeq (sAsg (aCall W__law_pick [] (aCons (aVar 1) (aCons (aLst (aCons (aC .non) (aCons (aC (.int 5)) (aCons (aTup (aCons (aO2 oIx (aVar 3) (aC (.int 0))) (aCons (aO2 oIx (aVar 3) (aC (.int 1))) (aNil)))) (aNil))))) (aNil)))) (gNm 10)) (sSeq (sFor (itS (aLst (aCons (aC (.gf "word_rows")) (aCons (aC (.gf "places_reached")) (aCons (aC (.gf "least_watch")) (aCons (aLam0 d_law_lam0) (aNil))))))) (gNm 11) (sIf (aTNot (aTB (aON (nIsi kt ci ce) (aCons (aCallL W__law_caught pNo d_law_lam1 [11, 10] L_law_lam1 aNil) (aCons (aC (.gf "NoWatch")) (aNil)))))) (sRet (aC (.bl false))) (sSkip))) (sSeq (sAsg (aCallL W__law_caught pNo d_law_lam2 [4, 1] L_law_lam2 aNil) (gNm 12)) (sIf (aTOr (aTNot (aTB (aON (nIsi kt ci ce) (aCons (aVar 12) (aCons (aC (.gf "BadNumber")) (aNil)))))) (aTB (aO2 (oNe) (aXf "BadNumber" "part" (aVar 12)) (aC (.str "length"))))) (sRet (aC (.bl false))) (sSkip)))))))))))))))) (sSeq (sAsg (aCall W__law_known [] aNil) (gTpn 3 (gCons (gNm 13) (gCons (gNm 14) (gCons (gNm 15) (gNil)))))) (sSeq (sAsg (aMake "Watch" W_Watch_init (aCons (aLst (aCons (aTup (aCons (aC (.int 0)) (aCons (aC (.int 0)) (aNil)))) (aCons (aTup (aCons (aC (.int 0)) (aCons (aC (.int 1)) (aNil)))) (aNil)))) (aCons (aLst (aCons (aC (.int 2)) (aCons (aC (.int 3)) (aNil)))) (aNil)))) (gNm 16)) (sSeq (sIf (aTOr (aTB (aO2 (oNe) (aCall W_word_rows [] (aCons (aVar 13) (aNil))) (aTup (aCons (aTup (aNil)) (aCons (aTup (aCons (aC (.int 1)) (aCons (aC (.int 1)) (aNil)))) (aCons (aC .non) (aCons (aC .non) (aNil)))))))) (aTOr (aTB (aO2 (oNe) (aCall W_places_reached [] (aCons (aVar 16) (aNil))) (aTup (aCons (aC (.int 0)) (aNil))))) (aTB (aO2 (oNe) (aCall W_word_rows [] (aCons (aVar 16) (aNil))) (aTup (aCons (aC .non) (aCons (aC .non) (aCons (aTup (aNil)) (aCons (aC .non) (aNil)))))))))) (sRet (aC (.bl false))) (sSkip)) (sRet (aAnd (aO2 (oEqOwn "Watch" W_Watch_eq) (aCall W_least_watch [] (aCons (aVar 16) (aNil))) (aMake "Watch" W_Watch_init (aCons (aLst (aCons (aTup (aCons (aC (.int 0)) (aCons (aC (.int 0)) (aNil)))) (aNil))) (aCons (aLst (aCons (aC (.int 2)) (aNil))) (aNil))))) (aAnd (aO2 (oEq) (aCall W_word_counts [] (aCons (aVar 13) (aCons (aC (.int 3)) (aNil)))) (aTup (aCons (aC (.int 5)) (aCons (aC (.int 3)) (aCons (aC (.int 0)) (aCons (aC (.int 0)) (aNil))))))) (aO2 (oEq) (aCall W_places_reached [] (aCons (aVar 13) (aNil))) (aTup (aCons (aC (.int 0)) (aCons (aC (.int 1)) (aCons (aC (.int 2)) (aNil))))))))))))))
end K92
end
section
set_option Elab.async false
set_option linter.all false
set_option maxRecDepth 100000
set_option maxHeartbeats 4000000
namespace K92
open PySem L2 PyA
local macro_rules | `(tactic| walk_at "w") => `(tactic| try simp only [w_var, w_c, w_nil, w_cons, w_star, w_tup, w_lst, w_o2, w_on, w_tb, w_chain, w_tand, w_tor, w_tnot, w_tys, w_and, w_or, w_not, w_ife, w_neg, w_call, w_callK, w_callP, w_callL, w_lam0, w_mt, w_fld, w_xf, w_prop, w_make, w_dic0, w_disp, w_pnil, w_pcons, w_lc, w_dc, w_lock, w_slock, w_lkAt, w_lkN, w_lkR, w_lkB, w_lkC, w_lkX, w_rg1, w_seq, w_skip, w_brk, w_cnt, w_exp, w_ret, w_retN, w_asg, w_if, w_par, w_par3, w_for, w_raise, w_try, w_sfld, w_nm, w_gnil, w_gcons, w_gtp, w_gix, w_o3, w_itS, w_itR1, w_itR2, w_itEn, w_itK, w_itKV, w_seqL, w_seqT, w_seqF, w_seqTF, w_enT, w_enF, w_enL, w_sub, w_mul, w_mod, w_fdiv, w_pow, w_lt, w_le, w_gt, w_ge, w_isN, w_notN, w_addI, w_addS, w_addT, w_ixT, w_ixF, w_ixL, w_lenT, w_lenF, w_lenTF, w_lenS, w_lenL, w_f1, w_i2, w_LI, w_LB, w_sort, w_listT, w_listF, w_listL, w_tupT, w_tupF, w_tupL, w_tupleF, w_lenSet, w_minD, w_tupIx, w_append, w_popAt, w_get, w_setd, w_recvL, w_itT, w_itF, w_itTF, w_itL, w_itI, w_itN, w_itB, w_itStr, w_F, w_L, w_lkm, w_lkw, w_ip1, w_ip2, w_fIntI, w_fIntB, w_fAbs, w_dkI, w_dkS, w_dkT, w_kind0, w_kindC, w_eqI, w_neI, Sum.isLeft_inl, Sum.isLeft_inr, decide_eq_true_eq, exists_false, exists_prop_of_true, w_itpL, w_itpF, w_itpT, w_itpTF, w_isNI, w_isNN, w_isNB, w_isNS, w_isNT, w_isNTF, w_isNF, w_isNL, w_isNX, wipeE, perm, List.map_cons, List.map_nil, List.getD_cons_zero, List.getD_cons_succ, List.length_cons, List.length_nil, List.replicate, List.cons_append, List.nil_append, List.append_nil, List.getElem?_cons_zero, List.getElem?_cons_succ, List.getElem?_nil, List.set_cons_zero, List.set_cons_succ, Option.some.injEq, Sum.inl.injEq, Sum.inr.injEq, PV.int.injEq, PV.bl.injEq, PV.loc.injEq, PV.tup.injEq, PV.str.injEq, PV.fls.injEq, PV.ftp.injEq, Cell.lst.injEq, Cell.dic.injEq, Cell.ins.injEq, Cell.dik.injEq, List.cons.injEq, exists_eq_left, exists_eq_left', exists_and_left, exists_and_right, exists_eq_right, exists_eq_right', exists_const, exists_eq, exists_eq', reduceCtorEq, false_and, and_false, true_and, and_true, or_false, false_or, true_or, or_true, and_self, if_true, if_false, Bool.false_eq_true, Bool.not_true, Bool.not_false, Nat.zero_add, Nat.reduceAdd, Nat.reduceSub, Nat.reduceLeDiff, Nat.reduceEqDiff, and_assoc, *])
local macro_rules | `(tactic| walk_at "n") => `(tactic| ((first | refine w_go ?_ | (dsimp only; refine w_go ?_) | (walk_at "w"; refine w_go ?_)); walk_at "w"))
local macro_rules | `(tactic| walk_at "v") => `(tactic| try simp only [w_var, w_c, w_nil, w_cons, w_star, w_tup, w_lst, w_o2, w_on, w_tb, w_chain, w_tand, w_tor, w_tnot, w_tys, w_and, w_or, w_not, w_ife, w_neg, w_call, w_callK, w_callP, w_callL, w_lam0, w_mt, w_fld, w_xf, w_prop, w_make, w_dic0, w_disp, w_pnil, w_pcons, w_lc, w_dc, w_lock, w_slock, w_lkAt, w_lkN, w_lkR, w_lkB, w_lkC, w_lkX, w_rg1, w_seq, w_skip, w_brk, w_cnt, w_exp, w_ret, w_retN, w_asg, w_if, w_par, w_par3, w_for, w_raise, w_try, w_sfld, w_nm, w_gnil, w_gcons, w_gtp, w_gix, w_o3, w_itS, w_itR1, w_itR2, w_itEn, w_itK, w_itKV, w_seqL, w_seqT, w_seqF, w_seqTF, w_enT, w_enF, w_enL, w_sub, w_mul, w_mod, w_fdiv, w_pow, w_lt, w_le, w_gt, w_ge, w_isN, w_notN, w_addI, w_addS, w_addT, w_ixT, w_ixF, w_lenT, w_lenF, w_lenTF, w_lenS, w_lenL, w_f1, w_i2, w_LI, w_LB, w_sort, w_listT, w_listF, w_listL, w_tupT, w_tupF, w_tupL, w_tupleF, w_lenSet, w_minD, w_tupIx, w_append, w_popAt, w_get, w_setd, w_recvL, w_itT, w_itF, w_itTF, w_itL, w_itI, w_itN, w_itB, w_itStr, w_F, w_L, w_lkm, w_lkw, w_ip1, w_ip2, w_fIntI, w_fIntB, w_fAbs, w_dkI, w_dkS, w_dkT, w_kind0, w_kindC, w_eqI, w_neI, Sum.isLeft_inl, Sum.isLeft_inr, decide_eq_true_eq, exists_false, exists_prop_of_true, w_itpL, w_itpF, w_itpT, w_itpTF, w_isNI, w_isNN, w_isNB, w_isNS, w_isNT, w_isNTF, w_isNF, w_isNL, w_isNX, wipeE, perm, List.map_cons, List.map_nil, List.getD_cons_zero, List.getD_cons_succ, List.length_cons, List.length_nil, List.replicate, List.cons_append, List.nil_append, List.append_nil, List.getElem?_cons_zero, List.getElem?_cons_succ, List.getElem?_nil, List.set_cons_zero, List.set_cons_succ, Option.some.injEq, Sum.inl.injEq, Sum.inr.injEq, PV.int.injEq, PV.bl.injEq, PV.loc.injEq, PV.tup.injEq, PV.str.injEq, PV.fls.injEq, PV.ftp.injEq, Cell.lst.injEq, Cell.dic.injEq, Cell.ins.injEq, Cell.dik.injEq, List.cons.injEq, exists_eq_left, exists_eq_left', exists_and_left, exists_and_right, exists_eq_right, exists_eq_right', exists_const, exists_eq, exists_eq', reduceCtorEq, false_and, and_false, true_and, and_true, or_false, false_or, true_or, or_true, and_self, if_true, if_false, Bool.false_eq_true, Bool.not_true, Bool.not_false, Nat.zero_add, Nat.reduceAdd, Nat.reduceSub, Nat.reduceLeDiff, Nat.reduceEqDiff, and_assoc, *])
/-- drawing leaves what stands but the tape -/
structure ExtT (h h' : Hh) : Prop where
  ext : Ext h h'
  tp : Tp true h'
theorem look_rest {rest turn : Int} : dLook (tapeKV true rest turn) (.inl (.inr "rest")) = some (.int rest) := rfl
theorem look_large {rest turn : Int} : dLook (tapeKV true rest turn) (.inl (.inr "large")) = some (.loc 0) := rfl
theorem look_cells {rest turn : Int} : dLook (tapeKV true rest turn) (.inl (.inr "cells")) = some (.loc 2) := rfl
theorem look_turn {rest turn : Int} : dLook (tapeKV true rest turn) (.inl (.inr "turn")) = some (.int turn) := rfl
theorem put_rest {rest turn r : Int} : dPut (tapeKV true rest turn) (.inl (.inr "rest")) (.int r) = tapeKV true r turn := rfl
theorem put_turn {rest turn r : Int} : dPut (tapeKV true rest turn) (.inl (.inr "turn")) (.int r) = tapeKV true rest r := rfl
theorem kind_tape {τ : Bool} {r t : Int} {s : Str} : PyA.Kind (tapeKV τ r t) (.inl (.inr s)) := by cases τ <;> simp [PyA.Kind, tapeKV]
theorem len_tape {τ : Bool} {r t : Int} : (tapeKV τ r t).length = 4 := by cases τ <;> rfl
local macro_rules | `(tactic| walk_at "t") => `(tactic| ((try (walk_at "w")); repeat (simp only [look_rest, look_large, look_cells, look_turn, put_rest, put_turn, kind_tape, len_tape]; try (walk_at "w"))))
theorem sl_big : 1000 ≤ sizeLine := by unfold sizeLine; decide
theorem sp_begun {ns : List Int} (hn : ns.length ≤ 63) : W__law_begun.run [.fls (ns.map .int)] [] (fun v h' => v = .loc 1 ∧ Tp true h') NX := by
  have sb := sl_big
  unfold W__law_begun
  walk_at "w"
  show compL _ _ _ _ _ 0 _ _ [.lst []]
  refine lc_raw (fun d acc h' => h' = [.lst acc] ∧ acc.length ≤ d.length ∧ ∃ lg : List Int, acc = lg.map .int ∧ ∀ z ∈ lg, 0 ≤ z) ⟨rfl, Nat.le_refl _, [], rfl, by simp⟩ (by omega) (fun _ _ _ _ => trivial) (fun d acc h' i => i.2.1) ?_ ?_
  · rintro d x r acc h' _ ⟨rfl, hl, lg, rfl, hg⟩
    walk_at "w"
    have p18 : (10 : Int) ^ (18 : Int).toNat = 1000000000000000000 := by decide
    have cp : CPow 10 18 := ⟨by decide, by decide, by decide⟩
    refine ⟨cp, ?_⟩
    have le : (List.map PV.int lg).length ≤ (d ++ [x]).length := by simp at hl ⊢; omega
    split <;> split
    · rename_i hx
      refine ⟨cp, by simpa using hl, lg ++ [-x - 10 ^ (18 : Int).toNat], by simp, ?_⟩
      intro z hz
      rcases List.mem_append.mp hz with hz | hz
      · exact hg z hz
      · simp at hz; omega
    · exact ⟨le, lg, rfl, hg⟩
    · rename_i hx
      refine ⟨cp, by simpa using hl, lg ++ [x - 10 ^ (18 : Int).toNat], by simp, ?_⟩
      intro z hz
      rcases List.mem_append.mp hz with hz | hz
      · exact hg z hz
      · simp at hz; omega
    · exact ⟨le, lg, rfl, hg⟩
  · rintro acc h' ⟨rfl, hl, lg, rfl, hg⟩
    walk_at "n"
    show compL _ _ _ _ _ 2 _ _ [.lst (lg.map .int), .dik [], .lst []]
    refine lc_raw (fun d acc h' => h' = [.lst (lg.map .int), .dik [], .lst acc] ∧ acc.length ≤ d.length ∧ ∃ cl : List Int, acc = cl.map .int ∧ ∀ z ∈ cl, 0 ≤ z) ⟨rfl, Nat.le_refl _, [], rfl, by simp⟩ (by omega) (fun _ _ _ _ => trivial) (fun d acc h' i => i.2.1) ?_ ?_
    · rintro d x r acc h' _ ⟨rfl, hl, cl, rfl, hg2⟩
      walk_at "w"
      refine ⟨by simpa using hl, cl ++ [if x < 0 then -x else x], by simp, ?_⟩
      intro z hz
      rcases List.mem_append.mp hz with hz | hz
      · exact hg2 z hz
      · simp at hz
        subst hz
        split <;> omega
    · rintro acc h' ⟨rfl, hl, cl, rfl, hg2⟩
      walk_at "w"
      refine ⟨tapeKV true 0 0, rfl, ?_⟩
      exact ⟨lg, cl, 0, 0, rfl, rfl, rfl, hg, hg2, by omega, by omega⟩
/-- the tape's own object is written -/
theorem tp_put {h : Hh} {r t : Int} {lg cl : List Int} (h0 : h[0]? = some (.lst (lg.map .int))) (h1 : ∃ c, h[1]? = some c) (h2 : h[2]? = some (.lst (cl.map .int))) (a : ∀ z ∈ lg, 0 ≤ z) (b : ∀ z ∈ cl, 0 ≤ z) (c : 0 ≤ r) (d : 0 ≤ t) : Tp true (h.set 1 (.dic false (tapeKV true r t))) := by
  obtain ⟨_, h1⟩ := h1
  have l := (List.getElem?_eq_some_iff.mp h1).1
  exact ⟨lg, cl, r, t, by rw [List.getElem?_set_ne (by decide)]; exact h0, List.getElem?_set_self l, by rw [List.getElem?_set_ne (by decide)]; exact h2, a, b, c, d⟩
theorem ext_low {h h' : Hh} (hl : h.length ≤ h'.length) (k : ∀ i, 3 ≤ i → i < h.length → h'[i]? = h[i]?) (t : Tp true h') (n : ¬ Tp false h) : Ext h h' := ⟨hl, k, fun τ t' => by cases τ with
  | true => exact t
  | false => exact absurd t' n⟩
theorem tp_not {h : Hh} (t : Tp true h) : ¬ Tp false h := by
  rintro ⟨_, _, _, _, _, b, _⟩
  obtain ⟨_, _, _, _, _, c, _⟩ := t
  rw [b] at c
  simp only [tapeKV, Option.some.injEq, Cell.dic.injEq, List.cons.injEq, Prod.mk.injEq, Sum.inl.injEq, Sum.inr.injEq] at c
  exact absurd c.2.1.1 (by decide)
theorem sp_blend {h : Hh} (T : Tp true h) : W__law_blend.run [.loc 1] h (fun v h' => ∃ r : Int, v = .int r ∧ 0 ≤ r ∧ Ext h h' ∧ Tp true h') NX := by
  have sb := sl_big
  have T0 := T
  obtain ⟨lg, cl, rest, turn, t0, t1, t2, t3, t4, t5, t6⟩ := T
  unfold W__law_blend
  walk_at "t"
  refine ⟨by omega, ?_⟩
  unfold Put
  have T1 := tp_put (r := rest) (t := turn + 1) t0 ⟨_, t1⟩ t2 t3 t4 t5 (by omega)
  have E1 : Ext h (h.set 1 (.dic false (tapeKV true rest (turn + 1)))) := ext_low (by simp) (fun i h1 h2 => List.getElem?_set_ne (by omega)) T1 (tp_not T0)
  generalize h.set 1 (.dic false (tapeKV true rest (turn + 1))) = h1 at T1 E1
  clear t0 t1 t2 t3 t4 t5 t6
  obtain ⟨lg, cl, rest, turn, t0, t1, t2, t3, t4, t5, t6⟩ := T1
  have T1 : Tp true h1 := ⟨lg, cl, rest, turn, t0, t1, t2, t3, t4, t5, t6⟩
  walk_at "n"
  walk_at "t"
  walk_at "n"
  walk_at "t"
  refine ⟨by omega, new_own (Own.start T1.b) fun l h2 O => ?_⟩
  have := O.f1
  walk_at "w"
  refine for_inv (α := Int) (f := .int) (xs := [2147483629, 2147483587, 2147483579]) (fun d e h' => ∃ (fo : Int) (o1 o2 o3 : Option PV), 0 ≤ fo ∧ e = [some (.loc 1), some (.int turn), some (.int fo), o1, o2, o3] ∧ Own h1 h' [(l, .lst [.int 2147483629, .int 2147483587, .int 2147483579])]) ⟨0, none, none, none, by omega, rfl, O⟩ (fun d e h' ⟨_, _, _, _, _, _, O⟩ => O.f1) ?_ ?_
  · rintro d x r hx e h' ⟨fo, o1, o2, o3, f0, rfl, O⟩
    have hxm : x = 2147483629 ∨ x = 2147483587 ∨ x = 2147483579 := by
      have : x ∈ ([2147483629, 2147483587, 2147483579] : List Int) := by rw [hx]; simp
      simpa using this
    have T2 := O.ext.tape true T1
    have T2' := T2
    obtain ⟨lg, cl, rest, turn2, t0, t1, t2, t3, t4, t5, t6⟩ := T2
    walk_at "w"
    refine ⟨.inr ⟨by decide, by decide⟩, ⟨by decide, by decide⟩, by omega, ?_⟩
    walk_at "n"
    walk_at "t"
    refine for_inv (α := Int) (f := .int) (xs := cl) (fun d e h'' => ∃ (bl : Int) (o3 : Option PV), 0 ≤ bl ∧ bl < x ∧ e = [some (.loc 1), some (.int turn), some (.int fo), some (.int x), some (.int bl), o3] ∧ h'' = h') ⟨_, _, ?_, ?_, rfl, rfl⟩ (fun d e h'' ⟨_, _, _, _, _, e2⟩ => by rw [e2]; exact t2) ?_ ?_
    · exact Int.emod_nonneg _ (by omega)
    · exact Int.emod_lt_of_pos _ (by omega)
    · rintro d y r hy e h'' ⟨bl, o3, b0, b1, rfl, rfl⟩
      walk_at "w"
      exact ⟨.inr ⟨by decide, by decide⟩, by omega, _, Int.emod_nonneg _ (by omega), Int.emod_lt_of_pos _ (by omega), rfl⟩
    · rintro e h'' ⟨bl, o3, b0, b1, rfl, rfl⟩
      walk_at "n"
      walk_at "t"
      refine ⟨.inr ⟨by decide, by decide⟩, ⟨by decide, by decide, by omega⟩, by omega, ?_⟩
      have h1 := Int.emod_nonneg (bl ^ (5 : Int).toNat) (show x ≠ 0 by omega)
      have h2 := Int.mul_nonneg f0 (show (0 : Int) ≤ 2147483647 by decide)
      omega
  · rintro e h' ⟨fo, o1, o2, o3, f0, rfl, O⟩
    walk_at "n"
    walk_at "t"
    exact ⟨E1.trans O.ext, O.ext.tape true T1⟩
theorem sp_draw {h : Hh} {sz : Int} (T : Tp true h) (hs : 0 < sz) (hs2 : sz < 1073741824) : W__law_draw.run [.loc 1, .int sz] h (fun v h' => ∃ r : Nat, v = .int r ∧ (r : Int) < sz ∧ Ext h h' ∧ Tp true h') NX := by
  have sb := sl_big
  have T0 := T
  -- the rest, once there is a number
  have fin : ∀ h1 : Hh, Ext h h1 → Tp true h1 → Later (sSeq (sAsg (aO2 oMod (aON (nF1 fInt) (aCons (aO2 oIx (aVar 0) (aC (.str "rest"))) (aNil))) (aVar 1)) (gNm 2)) (sSeq (sAsg (aO2 oFdiv (aON (nF1 fInt) (aCons (aO2 oIx (aVar 0) (aC (.str "rest"))) (aNil))) (aVar 1)) (gIx (aVar 0) (aC (.str "rest")))) (sRet (aVar 2))))
      { nx := fun x h' => (fun v h' => ∃ r : Nat, v = PV.int r ∧ (r : Int) < sz ∧ Ext h h' ∧ Tp true h') PV.non h', rt := fun v h' => ∃ r : Nat, v = PV.int r ∧ (r : Int) < sz ∧ Ext h h' ∧ Tp true h', bk := fun _ _ => False, ct := fun _ _ => False, ex := fun x _ h' => NX x h' } [some (.loc 1), some (.int sz), none] h1 := by
    intro h1 E T
    obtain ⟨lg, cl, rest, turn, t0, t1, t2, t3, t4, t5, t6⟩ := T
    walk_at "n"
    walk_at "t"
    walk_at "n"
    walk_at "t"
    refine ⟨⟨hs, hs2⟩, by omega, ?_⟩
    unfold Put
    have T1 := tp_put (r := rest / sz) (t := turn) t0 ⟨_, t1⟩ t2 t3 t4 (Int.ediv_nonneg t5 (by omega)) t6
    have E1 : Ext h1 (h1.set 1 (.dic false (tapeKV true (rest / sz) turn))) := ext_low (by simp) (fun i h1 h2 => List.getElem?_set_ne (by omega)) T1 (tp_not ⟨lg, cl, rest, turn, t0, t1, t2, t3, t4, t5, t6⟩)
    walk_at "n"
    walk_at "t"
    have h2 := Int.emod_nonneg rest (show sz ≠ 0 by omega)
    have h3 := Int.emod_lt_of_pos rest hs
    exact ⟨(rest % sz).toNat, by rw [Int.toNat_of_nonneg h2], by omega, E.trans E1⟩
  obtain ⟨lg, cl, rest, turn, t0, t1, t2, t3, t4, t5, t6⟩ := T
  unfold W__law_draw
  walk_at "t"
  split
  · refine ⟨by omega, new_own (Own.start T0.b) fun l h1 O => ?_⟩
    have T1 := O.ext.tape true T0
    have hl := O.f1
    have E1 := O.ext
    clear t0 t1 t2 t3 t4 t5 t6
    have T1' := T1
    obtain ⟨lg, cl, rest, turn, t0, t1, t2, t3, t4, t5, t6⟩ := T1
    refine ne_nil (xs := lg.map .int) t0 hl (by clear t0 t3; induction lg with
      | nil => rfl
      | cons z lg ih => simpa [plainAll, PyA.plain] using ih) (by clear t0 t3; induction lg with
      | nil => simp [pdeps]
      | cons z lg ih => simp [pdeps, pdep]; omega) ?_
    walk_at "w"
    split
    · rename_i hne
      walk_at "t"
      cases lg with
      | nil => simp at hne
      | cons z lg =>
        have hz : 0 ≤ z := t3 z (by simp)
        have hr : ∀ y ∈ lg, 0 ≤ y := fun y hy => t3 y (by simp [hy])
        have l0 := (List.getElem?_eq_some_iff.mp t0).1
        have l1 := (List.getElem?_eq_some_iff.mp t1).1
        have l2 := (List.getElem?_eq_some_iff.mp t2).1
        refine ⟨by decide, by decide, 0, by simp [seqIndex?], .int z, rfl, ?_⟩
        unfold Put
        have g1 : (h1.set 0 (.lst (((z :: lg).map PV.int).eraseIdx 0)))[1]? = some (.dic false (tapeKV true rest turn)) := by rw [List.getElem?_set_ne (by decide)]; exact t1
        have g0 : (h1.set 0 (.lst (((z :: lg).map PV.int).eraseIdx 0)))[0]? = some (.lst (lg.map .int)) := by rw [List.getElem?_set_self l0]; rfl
        have g2 : (h1.set 0 (.lst (((z :: lg).map PV.int).eraseIdx 0)))[2]? = some (.lst (cl.map .int)) := by rw [List.getElem?_set_ne (by decide)]; exact t2
        have Tm : Tp true (h1.set 0 (.lst (((z :: lg).map PV.int).eraseIdx 0))) := ⟨lg, cl, rest, turn, g0, g1, g2, hr, t4, t5, t6⟩
        have Em : Ext h1 (h1.set 0 (.lst (((z :: lg).map PV.int).eraseIdx 0))) := ext_low (by simp) (fun i a b => List.getElem?_set_ne (by omega)) Tm (tp_not T1')
        generalize h1.set 0 (.lst (((z :: lg).map PV.int).eraseIdx 0)) = h2 at g0 g1 g2 Tm Em
        clear t0 t1 t2
        refine ⟨_, g1, kind_tape, by rw [len_tape]; omega, ?_⟩
        rw [put_rest]
        have T3 := tp_put (r := z) (t := turn) g0 ⟨_, g1⟩ g2 hr t4 hz t6
        have E3 : Ext h2 (h2.set 1 (.dic false (tapeKV true z turn))) := ext_low (by simp) (fun i h1 h2 => List.getElem?_set_ne (by omega)) T3 (tp_not Tm)
        exact fin _ ((E1.trans Em).trans E3) T3
    · walk_at "t"
      refine W__law_blend.mono (sp_blend T1') ?_ (fun _ _ z => z.elim)
      rintro v h2 ⟨r, rfl, r0, E2, T2⟩
      have T2' := T2
      obtain ⟨lg, cl, rest, turn, t0, t1, t2, t3, t4, t5, t6⟩ := T2
      walk_at "t"
      refine ⟨by omega, ?_⟩
      unfold Put
      have T3 := tp_put (r := r) (t := turn) t0 ⟨_, t1⟩ t2 t3 t4 r0 t6
      have E3 : Ext h2 (h2.set 1 (.dic false (tapeKV true r turn))) := ext_low (by simp) (fun i h1 h2 => List.getElem?_set_ne (by omega)) T3 (tp_not T2')
      exact fin _ ((E1.trans E2).trans E3) T3
  · exact fin _ (Ext.refl h) T0
end K92
end
section
set_option Elab.async false
set_option linter.all false
set_option maxRecDepth 100000
set_option maxHeartbeats 4000000
namespace K92
open PySem L2 PyA
local macro_rules | `(tactic| walk_at "w") => `(tactic| try simp only [w_var, w_c, w_nil, w_cons, w_star, w_tup, w_lst, w_o2, w_on, w_tb, w_chain, w_tand, w_tor, w_tnot, w_tys, w_and, w_or, w_not, w_ife, w_neg, w_call, w_callK, w_callP, w_callL, w_lam0, w_mt, w_fld, w_xf, w_prop, w_make, w_dic0, w_disp, w_pnil, w_pcons, w_lc, w_dc, w_lock, w_slock, w_lkAt, w_lkN, w_lkR, w_lkB, w_lkC, w_lkX, w_rg1, w_seq, w_skip, w_brk, w_cnt, w_exp, w_ret, w_retN, w_asg, w_if, w_par, w_par3, w_for, w_raise, w_try, w_sfld, w_nm, w_gnil, w_gcons, w_gtp, w_gix, w_o3, w_itS, w_itR1, w_itR2, w_itEn, w_itK, w_itKV, w_seqL, w_seqT, w_seqF, w_seqTF, w_enT, w_enF, w_enL, w_sub, w_mul, w_mod, w_fdiv, w_pow, w_lt, w_le, w_gt, w_ge, w_isN, w_notN, w_addI, w_addS, w_addT, w_ixT, w_ixF, w_ixL, w_lenT, w_lenF, w_lenTF, w_lenS, w_lenL, w_f1, w_i2, w_LI, w_LB, w_sort, w_listT, w_listF, w_listL, w_tupT, w_tupF, w_tupL, w_tupleF, w_lenSet, w_minD, w_tupIx, w_append, w_popAt, w_get, w_setd, w_recvL, w_itT, w_itF, w_itTF, w_itL, w_itI, w_itN, w_itB, w_itStr, w_F, w_L, w_lkm, w_lkw, w_ip1, w_ip2, w_fIntI, w_fIntB, w_fAbs, w_dkI, w_dkS, w_dkT, w_kind0, w_kindC, w_eqI, w_neI, Sum.isLeft_inl, Sum.isLeft_inr, decide_eq_true_eq, exists_false, exists_prop_of_true, w_itpL, w_itpF, w_itpT, w_itpTF, w_isNI, w_isNN, w_isNB, w_isNS, w_isNT, w_isNTF, w_isNF, w_isNL, w_isNX, wipeE, perm, List.map_cons, List.map_nil, List.getD_cons_zero, List.getD_cons_succ, List.length_cons, List.length_nil, List.replicate, List.cons_append, List.nil_append, List.append_nil, List.getElem?_cons_zero, List.getElem?_cons_succ, List.getElem?_nil, List.set_cons_zero, List.set_cons_succ, Option.some.injEq, Sum.inl.injEq, Sum.inr.injEq, PV.int.injEq, PV.bl.injEq, PV.loc.injEq, PV.tup.injEq, PV.str.injEq, PV.fls.injEq, PV.ftp.injEq, Cell.lst.injEq, Cell.dic.injEq, Cell.ins.injEq, Cell.dik.injEq, List.cons.injEq, exists_eq_left, exists_eq_left', exists_and_left, exists_and_right, exists_eq_right, exists_eq_right', exists_const, exists_eq, exists_eq', reduceCtorEq, false_and, and_false, true_and, and_true, or_false, false_or, true_or, or_true, and_self, if_true, if_false, Bool.false_eq_true, Bool.not_true, Bool.not_false, Nat.zero_add, Nat.reduceAdd, Nat.reduceSub, Nat.reduceLeDiff, Nat.reduceEqDiff, and_assoc, *])
local macro_rules | `(tactic| walk_at "n") => `(tactic| ((first | refine w_go ?_ | (dsimp only; refine w_go ?_) | (walk_at "w"; refine w_go ?_)); walk_at "w"))
local macro_rules | `(tactic| walk_at "v") => `(tactic| try simp only [w_var, w_c, w_nil, w_cons, w_star, w_tup, w_lst, w_o2, w_on, w_tb, w_chain, w_tand, w_tor, w_tnot, w_tys, w_and, w_or, w_not, w_ife, w_neg, w_call, w_callK, w_callP, w_callL, w_lam0, w_mt, w_fld, w_xf, w_prop, w_make, w_dic0, w_disp, w_pnil, w_pcons, w_lc, w_dc, w_lock, w_slock, w_lkAt, w_lkN, w_lkR, w_lkB, w_lkC, w_lkX, w_rg1, w_seq, w_skip, w_brk, w_cnt, w_exp, w_ret, w_retN, w_asg, w_if, w_par, w_par3, w_for, w_raise, w_try, w_sfld, w_nm, w_gnil, w_gcons, w_gtp, w_gix, w_o3, w_itS, w_itR1, w_itR2, w_itEn, w_itK, w_itKV, w_seqL, w_seqT, w_seqF, w_seqTF, w_enT, w_enF, w_enL, w_sub, w_mul, w_mod, w_fdiv, w_pow, w_lt, w_le, w_gt, w_ge, w_isN, w_notN, w_addI, w_addS, w_addT, w_ixT, w_ixF, w_lenT, w_lenF, w_lenTF, w_lenS, w_lenL, w_f1, w_i2, w_LI, w_LB, w_sort, w_listT, w_listF, w_listL, w_tupT, w_tupF, w_tupL, w_tupleF, w_lenSet, w_minD, w_tupIx, w_append, w_popAt, w_get, w_setd, w_recvL, w_itT, w_itF, w_itTF, w_itL, w_itI, w_itN, w_itB, w_itStr, w_F, w_L, w_lkm, w_lkw, w_ip1, w_ip2, w_fIntI, w_fIntB, w_fAbs, w_dkI, w_dkS, w_dkT, w_kind0, w_kindC, w_eqI, w_neI, Sum.isLeft_inl, Sum.isLeft_inr, decide_eq_true_eq, exists_false, exists_prop_of_true, w_itpL, w_itpF, w_itpT, w_itpTF, w_isNI, w_isNN, w_isNB, w_isNS, w_isNT, w_isNTF, w_isNF, w_isNL, w_isNX, wipeE, perm, List.map_cons, List.map_nil, List.getD_cons_zero, List.getD_cons_succ, List.length_cons, List.length_nil, List.replicate, List.cons_append, List.nil_append, List.append_nil, List.getElem?_cons_zero, List.getElem?_cons_succ, List.getElem?_nil, List.set_cons_zero, List.set_cons_succ, Option.some.injEq, Sum.inl.injEq, Sum.inr.injEq, PV.int.injEq, PV.bl.injEq, PV.loc.injEq, PV.tup.injEq, PV.str.injEq, PV.fls.injEq, PV.ftp.injEq, Cell.lst.injEq, Cell.dic.injEq, Cell.ins.injEq, Cell.dik.injEq, List.cons.injEq, exists_eq_left, exists_eq_left', exists_and_left, exists_and_right, exists_eq_right, exists_eq_right', exists_const, exists_eq, exists_eq', reduceCtorEq, false_and, and_false, true_and, and_true, or_false, false_or, true_or, or_true, and_self, if_true, if_false, Bool.false_eq_true, Bool.not_true, Bool.not_false, Nat.zero_add, Nat.reduceAdd, Nat.reduceSub, Nat.reduceLeDiff, Nat.reduceEqDiff, and_assoc, *])
local macro_rules | `(tactic| walk_at "kt") => `(tactic| (unfold kt; repeat (first | exact List.Mem.head _ | apply List.Mem.tail)))
section
variable {h : Hh}
/-! ### numbers, lists -/
theorem sp_is_number {x : PV} (hx : Ord x) : W_is_number.run [x] h (fun v h' => v = .bl (isI x).isSome ∧ h = h') NX := by
  unfold W_is_number
  walk_at "w"
  cases x with
  | int i =>
    refine isi1 rfl trivial rfl (b := true) (by walk_at "kt") ?_
    walk_at "w"
    refine isi1 rfl trivial rfl (b := false) (by walk_at "kt") ?_
    walk_at "w"
    rfl
  | bl b =>
    refine isi1 rfl trivial rfl (b := true) (by walk_at "kt") ?_
    walk_at "w"
    refine isi1 rfl trivial rfl (b := true) (by walk_at "kt") ?_
    walk_at "w"
    rfl
  | non => refine isi1 rfl trivial rfl (b := false) (by walk_at "kt") ?_; walk_at "w"; rfl
  | str s => refine isi1 rfl trivial rfl (b := false) (by walk_at "kt") ?_; walk_at "w"; rfl
  | tup s => refine isi1 rfl trivial rfl (b := false) (by walk_at "kt") ?_; walk_at "w"; rfl
  | _ => exact hx.elim
theorem sp_is_between {x : PV} (hx : Ord x) {lo hi : Int} : W_is_between.run [x, .int lo, .int hi] h (fun v h' => v = .bl (btw x lo hi) ∧ h = h') NX := by
  unfold W_is_between
  walk_at "w"
  refine W_is_number.mono (sp_is_number hx) ?_ fun _ _ z => z
  rintro v h' ⟨rfl, rfl⟩
  cases x with
  | int i =>
    simp only [isI, Option.isSome]
    walk_at "w"
    by_cases h1 : lo ≤ i
    · rw [if_pos h1]
      walk_at "w"
      simp [btw, h1]
    · rw [if_neg h1]
      simp [btw, h1]
  | _ => first | exact hx.elim | (simp only [isI, Option.isSome, btw]; walk_at "w")
theorem sp_is_list {x : PV} {xs : List PV} (s : SeqV h x xs) (hx : ∀ ys, x ≠ .fls ys) : W_is_list.run [x] h (fun v h' => v = .bl true ∧ h = h') NX := by
  unfold W_is_list
  walk_at "w"
  refine ⟨by have := sl_big; omega, ?_⟩
  rcases tag_seq s hx with t | t
  · refine isi2 t (ok_seq s) rfl (.no (by walk_at "kt") (.yes (by walk_at "kt"))) ?_
    walk_at "w"
  · refine isi2 t (ok_seq s) rfl (.yes (by walk_at "kt")) ?_
    walk_at "w"
theorem sp_is_list_no {x : PV} (hx : Ord x) (hn : ∀ ys, x ≠ .tup ys) : W_is_list.run [x] h (fun v h' => v = .bl false ∧ h = h') NX := by
  unfold W_is_list
  walk_at "w"
  refine ⟨by have := sl_big; omega, ?_⟩
  cases x with
  | tup ys => exact absurd rfl (hn ys)
  | int i => refine isi2 rfl trivial rfl (.no (by walk_at "kt") (.no (by walk_at "kt") .nil)) ?_; walk_at "w"
  | bl i => refine isi2 rfl trivial rfl (.no (by walk_at "kt") (.no (by walk_at "kt") .nil)) ?_; walk_at "w"
  | str i => refine isi2 rfl trivial rfl (.no (by walk_at "kt") (.no (by walk_at "kt") .nil)) ?_; walk_at "w"
  | non => refine isi2 rfl trivial rfl (.no (by walk_at "kt") (.no (by walk_at "kt") .nil)) ?_; walk_at "w"
  | _ => exact hx.elim
/-- the first that does not fit -/
theorem sp_first_wrong {Φ : PhiT} {x f : PV} {xs : List PV} {F : AF} (s : SeqV h x xs) (b : 3 ≤ h.length) (hF : Φ f F) (p : PV → Bool) (hp : ∀ y ∈ xs, ∀ h', Ext h h' → F.run [y] h' (fun v h'' => v = .bl (p y) ∧ Ext h' h'') NX) :
    (W_first_wrong Φ).run [x, f] h (fun v h' => v = (match xs.findIdx? (fun y => !p y) with | some i => .int (i : Nat) | none => .non) ∧ Ext h h') NX := by
  unfold W_first_wrong
  walk_at "w"
  refine en_of s fun ok hok => ?_
  rw [show enuI xs ok = enuI (xs.map id) ok by rw [List.map_id]]
  refine for_enum (f := id) (fun d e h' => ∃ o1 o2 : Option PV, e = [some x, some f, o1, o2] ∧ Ext h h' ∧ ∀ y ∈ d, p y = true) ⟨none, none, rfl, Ext.refl h, by simp⟩ (fun d e h' ⟨_, _, _, E, _⟩ => hok h' E) ?_ ?_
  · rintro d y r hx e h' ⟨o1, o2, rfl, E, hd⟩
    walk_at "w"
    refine ⟨_, hF, ?_⟩
    refine F.mono (hp y (by rw [hx]; simp) h' E) ?_ fun _ _ z => z
    rintro v h2 ⟨rfl, E2⟩
    walk_at "w"
    cases hy : p y with
    | true =>
      walk_at "w"
      refine ⟨E.trans E2, fun z hz => ?_⟩
      rcases List.mem_append.mp hz with hz | hz
      · exact hd z hz
      · simp at hz; rw [hz]; exact hy
    | false =>
      walk_at "w"
      refine ⟨?_, E.trans E2⟩
      have : xs.findIdx? (fun y => !p y) = some d.length := by
        rw [hx, List.findIdx?_append, List.findIdx?_eq_none_iff.mpr (by simpa using hd)]
        simp [List.findIdx?_cons, hy]
      rw [← hx, this]
  · rintro e h' ⟨o1, o2, rfl, E, hd⟩
    walk_at "n"
    rw [List.findIdx?_eq_none_iff.mpr (by simpa using hd)]
theorem sp_is_short_list {x : PV} {xs : List PV} (s : SeqV h x xs) (hx : ∀ ys, x ≠ .fls ys) (hl : xs.length ≤ 300) : W_is_short_list.run [x] h (fun v h' => v = .bl true ∧ h = h') NX := by
  unfold W_is_short_list
  have := s.items
  walk_at "w"
  refine W_is_list.mono (sp_is_list s hx) ?_ fun _ _ z => z
  rintro v h' ⟨rfl, rfl⟩
  walk_at "w"
  refine len_of s ?_
  walk_at "w"
  have : ((xs.length : Nat) : Int) ≤ 300 := by omega
  simp [this]
theorem sp_need_row_of {k : Nat} {x : PV} {r : List Nat} (b : 3 ≤ h.length) (s : SeqV h x (nums r)) (hx : ∀ ys, x ≠ .fls ys) (hl : r.length ≤ 300) (hr : ∀ d ∈ r, d < k) : W_need_row_of.run [.int k, x] h (fun v h' => v = .non ∧ Ext h h') NX := by
  unfold W_need_row_of
  walk_at "w"
  refine W_is_short_list.mono (sp_is_short_list s hx (by rw [nums_len]; exact hl)) ?_ fun _ _ z => z
  rintro v h' ⟨rfl, rfl⟩
  walk_at "w"
  walk_at "n"
  refine ⟨[.int k], rfl, fun f c cl us => ?_⟩
  refine (W_first_wrong _).mono (sp_first_wrong s b (.inl ⟨rfl, rfl⟩) (fun y => btw y 0 (k - 1)) ?_) ?_ fun _ _ z => z
  · intro y hy h' E
    unfold L_need_row_of_lam0 B_need_row_of_lam0
    walk_at "w"
    have : Ord y := by
      obtain ⟨n, _, rfl⟩ := List.mem_map.mp hy; trivial
    refine W_is_between.mono (sp_is_between this) ?_ fun _ _ z => z
    rintro v h' ⟨rfl, rfl⟩
    exact ⟨rfl, Ext.refl _⟩
  · rintro v h' ⟨rfl, E⟩
    rw [List.findIdx?_eq_none_iff.mpr ?_]
    · walk_at "n"
      walk_at "w"
    · intro y hy
      obtain ⟨n, hn, rfl⟩ := List.mem_map.mp hy
      have := hr n hn
      simp [btw]
      omega
theorem sp_is_word {x : PV} (hx : Ord x) : W_is_word.run [x] h (fun v h' => v = .bl (btw x 0 3) ∧ h = h') NX := by
  unfold W_is_word
  walk_at "w"
  exact sp_is_between hx
theorem all_true {bs : List Bool} (h : ∀ b ∈ bs, b = true) : bs.all id = true := List.all_eq_true.mpr h
theorem sp_is_line {x : PV} {r : List Nat} {m : Nat} (b : 3 ≤ h.length) (s : SeqV h x (nums r)) (hx : ∀ ys, x ≠ .fls ys) (hl : r.length ≤ 300) (hr : ∀ d ∈ r, d < m) : W_is_line.run [x, .int (r.length : Nat), .int m] h (fun v h' => v = .bl true ∧ Ext h h') NX := by
  unfold W_is_line
  walk_at "w"
  refine W_is_list.mono (sp_is_list s hx) ?_ fun _ _ z => z
  rintro v h' ⟨rfl, rfl⟩
  walk_at "w"
  refine len_of s ?_
  rw [nums_len]
  walk_at "w"
  simp only [decide_true, Bool.not_true, Bool.false_eq_true, if_false]
  walk_at "n"
  refine itr_of s fun ok hok => new_own (Own.start b) fun l h1 O => ?_
  refine lc_map O (f := fun n : Nat => PV.int n) (xs := r) (fun n => .bl (decide (n < m))) (by have := sl_big; omega) (fun acc h' O => hok h' O.ext) ?_ ?_
  · intro n hn acc h2 O2
    walk_at "w"
    refine ⟨Ext.refl _, W_is_between.mono (sp_is_between (x := .int n) trivial) ?_ fun _ _ z => z⟩
    rintro v h3 ⟨rfl, rfl⟩
    have := hr n hn
    refine ⟨?_, Ext.refl _⟩
    simp [btw, this]
    omega
  · intro h2 O2
    have := O2.f1
    have e : List.map (fun n => PV.bl (decide (n < m))) r = (r.map fun n => decide (n < m)).map PV.bl := by rw [List.map_map]; rfl
    rw [e] at this
    walk_at "w"
    refine ⟨r.map fun n => decide (n < m), rfl, ?_, O2.ext⟩
    refine all_true fun b hb => ?_
    obtain ⟨n, hn, rfl⟩ := List.mem_map.mp hb
    exact decide_eq_true (hr n hn)
theorem sp_need_moves {x : PV} {xs : List PV} {mv : List (List Nat)} {wd : List Nat} {k : Nat} (b : 3 ≤ h.length) (s : SeqV h x xs) (hx : ∀ ys, x ≠ .fls ys) (hxs : ∀ y ∈ xs, ∀ ys, y ≠ .fls ys) (R : Rows h xs mv) (w : Mx.WF k mv wd) (m6 : mv.length ≤ 6) (k1 : 1 ≤ k) (k4 : k ≤ 4) :
    W_need_moves.run [x] h (fun v h' => v = .non ∧ Ext h h') NX := by
  have lx := R.len
  have wp := w.pos
  unfold W_need_moves
  walk_at "w"
  refine W_is_list.mono (sp_is_list s hx) ?_ fun _ _ z => z
  rintro v h' ⟨rfl, rfl⟩
  walk_at "w"
  refine len_of s ?_
  walk_at "w"
  have a1 : (1 : Int) ≤ (mv.length : Nat) := by omega
  have a2 : ((mv.length : Nat) : Int) ≤ 6 := by omega
  simp only [a1, a2, decide_true, Bool.not_true, Bool.false_eq_true, if_false, if_true]
  walk_at "n"
  have h0 : ∃ y, xs[0]? = some y := ⟨xs[0]'(by omega), List.getElem?_eq_getElem _⟩
  obtain ⟨y, hy⟩ := h0
  obtain ⟨r, hr, sy⟩ := R.at hy
  have hyx := hxs y (List.mem_of_getElem? hy)
  have at0 : atI xs 0 = some y := by
    have := atI_map (f := id) (i := 0) hy
    simpa using this
  have rk : r.length = k := by
    have := w.kl 0 wp
    have e := Mx.goals_of wp
    rw [e] at hr
    cases hr
    exact this
  
  refine ix_of s at0 ?_
  walk_at "n"
  refine W_is_list.mono (sp_is_list sy hyx) ?_ fun _ _ z => z
  rintro v h'' ⟨rfl, rfl⟩
  walk_at "w"
  refine len_of sy ?_
  rw [nums_len]
  walk_at "w"
  have a3 : (1 : Int) ≤ (k : Nat) := by omega
  have a4 : ((k : Nat) : Int) ≤ 4 := by omega
  simp only [a3, a4, decide_true, Bool.not_true, Bool.false_eq_true, if_false, if_true]
  walk_at "n"
  refine ⟨[y, x], rfl, fun f c cl us => ?_⟩
  refine (W_first_wrong _).mono (sp_first_wrong s b (.inl ⟨rfl, rfl⟩) (fun _ => true) ?_) ?_ fun _ _ z => z
  · intro z hz h2 E
    unfold L_need_moves_lam0 B_need_moves_lam0
    walk_at "w"
    refine len_of (sy.ext E) ?_
    rw [nums_len]
    refine len_of (s.ext E) ?_
    obtain ⟨i, hi⟩ := List.getElem?_of_mem hz
    obtain ⟨q, hq, sz⟩ := R.at hi
    have hql : i < mv.length := (List.getElem?_eq_some_iff.mp hq).1
    have hqg : q = Mx.goals mv i := by
      rw [Mx.goals_of hql] at hq
      exact (Option.some.inj hq).symm
    have e1 : r.length = q.length := by rw [rk, hqg, w.kl i hql]
    rw [e1, lx]
    refine W_is_line.mono (sp_is_line (by have := E.len; omega) (sz.ext E) (hxs z hz) (by omega) ?_) ?_ fun _ _ z => z
    · intro d hd
      rw [hqg] at hd
      exact w.lt i d hql hd
    · rintro v h3 ⟨rfl, E3⟩
      exact ⟨rfl, E3⟩
  · rintro v h2 ⟨rfl, E⟩
    rw [List.findIdx?_eq_none_iff.mpr (by simp)]
    walk_at "n"
    walk_at "w"
theorem sp_need_words {x : PV} {wd : List Nat} {m : Nat} (b : 3 ≤ h.length) (s : SeqV h x (nums wd)) (hx : ∀ ys, x ≠ .fls ys) (hm : wd.length = m) (h3 : ∀ w ∈ wd, w ≤ 3) : W_need_words.run [x, .int m] h (fun v h' => v = .non ∧ Ext h h') NX := by
  unfold W_need_words
  walk_at "w"
  refine W_is_list.mono (sp_is_list s hx) ?_ fun _ _ z => z
  rintro v h' ⟨rfl, rfl⟩
  walk_at "w"
  refine len_of s ?_
  rw [nums_len, hm]
  walk_at "w"
  simp only [decide_true, Bool.not_true, Bool.false_eq_true, if_false]
  walk_at "n"
  refine (W_first_wrong _).mono (sp_first_wrong s b ⟨rfl, rfl⟩ (fun y => btw y 0 3) ?_) ?_ fun _ _ z => z
  · intro y hy h' E
    have : Ord y := by
      obtain ⟨n, _, rfl⟩ := List.mem_map.mp hy; trivial
    refine W_is_word.mono (sp_is_word this) ?_ fun _ _ z => z
    rintro v h' ⟨rfl, rfl⟩
    exact ⟨rfl, Ext.refl _⟩
  · rintro v h' ⟨rfl, E⟩
    rw [List.findIdx?_eq_none_iff.mpr ?_]
    · walk_at "n"
      walk_at "w"
    · intro y hy
      obtain ⟨n, hn, rfl⟩ := List.mem_map.mp hy
      have := h3 n hn
      simp [btw]
      omega
end
end K92
end
section
set_option Elab.async false
set_option linter.all false
set_option maxRecDepth 100000
set_option maxHeartbeats 4000000
namespace K92
open PySem L2 PyA
local macro_rules | `(tactic| walk_at "w") => `(tactic| try simp only [w_var, w_c, w_nil, w_cons, w_star, w_tup, w_lst, w_o2, w_on, w_tb, w_chain, w_tand, w_tor, w_tnot, w_tys, w_and, w_or, w_not, w_ife, w_neg, w_call, w_callK, w_callP, w_callL, w_lam0, w_mt, w_fld, w_xf, w_prop, w_make, w_dic0, w_disp, w_pnil, w_pcons, w_lc, w_dc, w_lock, w_slock, w_lkAt, w_lkN, w_lkR, w_lkB, w_lkC, w_lkX, w_rg1, w_seq, w_skip, w_brk, w_cnt, w_exp, w_ret, w_retN, w_asg, w_if, w_par, w_par3, w_for, w_raise, w_try, w_sfld, w_nm, w_gnil, w_gcons, w_gtp, w_gix, w_o3, w_itS, w_itR1, w_itR2, w_itEn, w_itK, w_itKV, w_seqL, w_seqT, w_seqF, w_seqTF, w_enT, w_enF, w_enL, w_sub, w_mul, w_mod, w_fdiv, w_pow, w_lt, w_le, w_gt, w_ge, w_isN, w_notN, w_addI, w_addS, w_addT, w_ixT, w_ixF, w_ixL, w_lenT, w_lenF, w_lenTF, w_lenS, w_lenL, w_f1, w_i2, w_LI, w_LB, w_sort, w_listT, w_listF, w_listL, w_tupT, w_tupF, w_tupL, w_tupleF, w_lenSet, w_minD, w_tupIx, w_append, w_popAt, w_get, w_setd, w_recvL, w_itT, w_itF, w_itTF, w_itL, w_itI, w_itN, w_itB, w_itStr, w_F, w_L, w_lkm, w_lkw, w_ip1, w_ip2, w_fIntI, w_fIntB, w_fAbs, w_dkI, w_dkS, w_dkT, w_kind0, w_kindC, w_eqI, w_neI, Sum.isLeft_inl, Sum.isLeft_inr, decide_eq_true_eq, exists_false, exists_prop_of_true, w_itpL, w_itpF, w_itpT, w_itpTF, w_isNI, w_isNN, w_isNB, w_isNS, w_isNT, w_isNTF, w_isNF, w_isNL, w_isNX, wipeE, perm, List.map_cons, List.map_nil, List.getD_cons_zero, List.getD_cons_succ, List.length_cons, List.length_nil, List.replicate, List.cons_append, List.nil_append, List.append_nil, List.getElem?_cons_zero, List.getElem?_cons_succ, List.getElem?_nil, List.set_cons_zero, List.set_cons_succ, Option.some.injEq, Sum.inl.injEq, Sum.inr.injEq, PV.int.injEq, PV.bl.injEq, PV.loc.injEq, PV.tup.injEq, PV.str.injEq, PV.fls.injEq, PV.ftp.injEq, Cell.lst.injEq, Cell.dic.injEq, Cell.ins.injEq, Cell.dik.injEq, List.cons.injEq, exists_eq_left, exists_eq_left', exists_and_left, exists_and_right, exists_eq_right, exists_eq_right', exists_const, exists_eq, exists_eq', reduceCtorEq, false_and, and_false, true_and, and_true, or_false, false_or, true_or, or_true, and_self, if_true, if_false, Bool.false_eq_true, Bool.not_true, Bool.not_false, Nat.zero_add, Nat.reduceAdd, Nat.reduceSub, Nat.reduceLeDiff, Nat.reduceEqDiff, and_assoc, *])
local macro_rules | `(tactic| walk_at "n") => `(tactic| ((first | refine w_go ?_ | (dsimp only; refine w_go ?_) | (walk_at "w"; refine w_go ?_)); walk_at "w"))
local macro_rules | `(tactic| walk_at "v") => `(tactic| try simp only [w_var, w_c, w_nil, w_cons, w_star, w_tup, w_lst, w_o2, w_on, w_tb, w_chain, w_tand, w_tor, w_tnot, w_tys, w_and, w_or, w_not, w_ife, w_neg, w_call, w_callK, w_callP, w_callL, w_lam0, w_mt, w_fld, w_xf, w_prop, w_make, w_dic0, w_disp, w_pnil, w_pcons, w_lc, w_dc, w_lock, w_slock, w_lkAt, w_lkN, w_lkR, w_lkB, w_lkC, w_lkX, w_rg1, w_seq, w_skip, w_brk, w_cnt, w_exp, w_ret, w_retN, w_asg, w_if, w_par, w_par3, w_for, w_raise, w_try, w_sfld, w_nm, w_gnil, w_gcons, w_gtp, w_gix, w_o3, w_itS, w_itR1, w_itR2, w_itEn, w_itK, w_itKV, w_seqL, w_seqT, w_seqF, w_seqTF, w_enT, w_enF, w_enL, w_sub, w_mul, w_mod, w_fdiv, w_pow, w_lt, w_le, w_gt, w_ge, w_isN, w_notN, w_addI, w_addS, w_addT, w_ixT, w_ixF, w_lenT, w_lenF, w_lenTF, w_lenS, w_lenL, w_f1, w_i2, w_LI, w_LB, w_sort, w_listT, w_listF, w_listL, w_tupT, w_tupF, w_tupL, w_tupleF, w_lenSet, w_minD, w_tupIx, w_append, w_popAt, w_get, w_setd, w_recvL, w_itT, w_itF, w_itTF, w_itL, w_itI, w_itN, w_itB, w_itStr, w_F, w_L, w_lkm, w_lkw, w_ip1, w_ip2, w_fIntI, w_fIntB, w_fAbs, w_dkI, w_dkS, w_dkT, w_kind0, w_kindC, w_eqI, w_neI, Sum.isLeft_inl, Sum.isLeft_inr, decide_eq_true_eq, exists_false, exists_prop_of_true, w_itpL, w_itpF, w_itpT, w_itpTF, w_isNI, w_isNN, w_isNB, w_isNS, w_isNT, w_isNTF, w_isNF, w_isNL, w_isNX, wipeE, perm, List.map_cons, List.map_nil, List.getD_cons_zero, List.getD_cons_succ, List.length_cons, List.length_nil, List.replicate, List.cons_append, List.nil_append, List.append_nil, List.getElem?_cons_zero, List.getElem?_cons_succ, List.getElem?_nil, List.set_cons_zero, List.set_cons_succ, Option.some.injEq, Sum.inl.injEq, Sum.inr.injEq, PV.int.injEq, PV.bl.injEq, PV.loc.injEq, PV.tup.injEq, PV.str.injEq, PV.fls.injEq, PV.ftp.injEq, Cell.lst.injEq, Cell.dic.injEq, Cell.ins.injEq, Cell.dik.injEq, List.cons.injEq, exists_eq_left, exists_eq_left', exists_and_left, exists_and_right, exists_eq_right, exists_eq_right', exists_const, exists_eq, exists_eq', reduceCtorEq, false_and, and_false, true_and, and_true, or_false, false_or, true_or, or_true, and_self, if_true, if_false, Bool.false_eq_true, Bool.not_true, Bool.not_false, Nat.zero_add, Nat.reduceAdd, Nat.reduceSub, Nat.reduceLeDiff, Nat.reduceEqDiff, and_assoc, *])
local macro_rules | `(tactic| walk_at "kt") => `(tactic| (unfold kt; repeat (first | exact List.Mem.head _ | apply List.Mem.tail)))
/-- a sequence that is no list known from without -/
def NoF (x : PV) : Prop := ∀ ys, x ≠ .fls ys
theorem nof_loc {l : Nat} : NoF (.loc l) := fun ys e => by cases e
theorem nof_tup {xs : List PV} : NoF (.tup xs) := fun ys e => by cases e
section
variable {h0 h : Hh}
theorem sp_Watch_init {l : Nat} {x y : PV} {xs : List PV} {mv : List (List Nat)} {wd : List Nat} {k : Nat} (O : Own h0 h [(l, .ins "Watch" [] [])]) (s : SeqV h0 x xs) (hx : NoF x) (hxs : ∀ y ∈ xs, NoF y) (R : Rows h0 xs mv) (w : Fit k mv wd) (sw : SeqV h0 y (nums wd)) (hy : NoF y) :
    W_Watch_init.run [.loc l, x, y] h (fun v h' => v = .non ∧ Own h0 h' [(l, watchC mv wd)]) NX := by
  unfold W_Watch_init
  walk_at "w"
  refine W_need_moves.mono (sp_need_moves O.b (s.ext O.ext) hx hxs (R.ext O.ext) w.wf w.m6 w.k1 w.k4) ?_ fun _ _ z => z
  rintro v h1 ⟨rfl, E1⟩
  have O1 := O.call E1
  walk_at "n"
  refine len_of (s.ext O1.ext) ?_
  rw [R.len]
  refine W_need_words.mono (sp_need_words O1.b (sw.ext O1.ext) hy w.wf.wl w.w3) ?_ fun _ _ z => z
  rintro v h2 ⟨rfl, E2⟩
  have O2 := O1.call E2
  walk_at "n"
  have R2 := R.ext O2.ext
  refine itr_of (s.ext O2.ext) fun ok hok => new_own (Own.start O2.b) fun l3 h3 O3 => ?_
  have e0 : xs = xs.map id := by simp
  conv => arg 8; rw [e0]
  refine lc_own O3 (fun d acc => acc = (mv.take d.length).map encR) rfl (by have := sl_big; have := w.m6; have := R.len; omega) (fun acc h' O' => hok h' O'.ext) ?_ ?_
  · rintro d z r acc h4 hd rfl O4
    obtain ⟨q, hq, sz⟩ := R2.at (i := d.length) (x := z) (by rw [hd]; simp)
    have fin : (mv.take (d ++ [z]).length).map encR = (mv.take d.length).map encR ++ [encR q] := by
      rw [List.length_append, List.length_singleton, List.take_add_one, hq]; simp
    rw [fin]
    walk_at "w"
    exact tuple_of (sz.ext O4.ext) ⟨O4, rfl⟩
  · rintro acc h4 O4 rfl
    rw [R.len, List.take_length] at O4
    have O5 := O2.join O4
    have f5 := O5.f2
    walk_at "w"
    refine ⟨by decide, put_own O5 1 rfl fun h5 O6 => ?_⟩
    have f6 := O6.f2
    walk_at "n"
    refine tuple_of (sw.ext O6.ext) ?_
    walk_at "w"
    refine ⟨by decide, put_own O6 1 rfl fun h7 O7 => ?_⟩
    exact O7.sub (.cons _ (.cons₂ _ (.slnil)))
/-- Watch(..) -/
theorem make_watch {x y : PV} {xs : List PV} {mv : List (List Nat)} {wd : List Nat} {k : Nat} {P : Nat → Hh → Prop} (b : 3 ≤ h.length) (s : SeqV h x xs) (hx : NoF x) (hxs : ∀ y ∈ xs, NoF y) (R : Rows h xs mv) (w : Fit k mv wd) (sw : SeqV h y (nums wd)) (hy : NoF y) {R' : QX}
    (q : ∀ l h', Own h h' [(l, watchC mv wd)] → P l h') : New h (.ins "Watch" [] []) fun l h2 => W_Watch_init.run [.loc l, x, y] h2 (fun v h2 => v = .non ∧ P l h2) R' :=
  new_own (Own.start b) fun l h1 O => W_Watch_init.mono (sp_Watch_init O s hx hxs R w sw hy) (fun v h' ⟨e, O'⟩ => ⟨e, q l h' O'⟩) fun _ _ z => z.elim
/-! ### reading a Watch -/
theorem sp_moves {l : Nat} {mv : List (List Nat)} {wd : List Nat} (w : IsW h l mv wd) : W_Watch_moves.run [.loc l] h (fun v h' => v = encM mv ∧ h = h') NX := by
  have := w.2
  unfold watchC at this
  unfold W_Watch_moves
  walk_at "w"
theorem sp_words {l : Nat} {mv : List (List Nat)} {wd : List Nat} (w : IsW h l mv wd) : W_Watch_words.run [.loc l] h (fun v h' => v = encR wd ∧ h = h') NX := by
  have := w.2
  unfold watchC at this
  unfold W_Watch_words
  walk_at "w"
theorem sp_kinds {l k : Nat} {mv : List (List Nat)} {wd : List Nat} (w : IsW h l mv wd) (wf : Mx.WF k mv wd) : W_Watch_kinds.run [.loc l] h (fun v h' => v = .int (k : Nat) ∧ h = h') NX := by
  have := w.2
  unfold watchC at this
  unfold W_Watch_kinds
  walk_at "w"
  have := atI_rows wf.pos
  simp only [encM]
  walk_at "w"
  refine ⟨encR (Mx.goals mv 0), this, ?_⟩
  unfold encR
  walk_at "w"
  simp [nums_len, wf.kl 0 wf.pos]
theorem tag_watch {l : Nat} {mv : List (List Nat)} {wd : List Nat} (w : IsW h l mv wd) : tagPV h (.loc l) = some (.own "Watch") := by
  simp only [tagPV, w.2, watchC]
theorem tagok_watch {l : Nat} {mv : List (List Nat)} {wd : List Nat} (w : IsW h l mv wd) : tagOk ci ce h (.loc l) := by
  simp only [tagOk, w.2, watchC]
  exact List.Mem.head _
theorem sp_need_watch {l : Nat} {p : PV} {mv : List (List Nat)} {wd : List Nat} (w : IsW h l mv wd) : W_need_watch.run [.loc l, p] h (fun v h' => v = .non ∧ h = h') NX := by
  unfold W_need_watch
  walk_at "w"
  refine isi1 (tag_watch w) (tagok_watch w) rfl (b := true) (by walk_at "kt") ?_
  walk_at "w"
/-- no Watch: refused -/
theorem sp_need_watch_no {x p : PV} {R : QX} (hx : Ord x) (q : R ⟨"NoWatch", ["part"], [p]⟩ h) : W_need_watch.run [x, p] h (fun _ _ => False) R := by
  unfold W_need_watch
  walk_at "w"
  cases x with
  | int i => refine isi1 rfl trivial rfl (b := false) (by walk_at "kt") ?_; walk_at "w"
  | bl i => refine isi1 rfl trivial rfl (b := false) (by walk_at "kt") ?_; walk_at "w"
  | str i => refine isi1 rfl trivial rfl (b := false) (by walk_at "kt") ?_; walk_at "w"
  | non => refine isi1 rfl trivial rfl (b := false) (by walk_at "kt") ?_; walk_at "w"
  | tup i => refine isi1 rfl trivial rfl (b := false) (by walk_at "kt") ?_; walk_at "w"
  | _ => exact hx.elim
/-- a row of kinds: what the value must be -/
structure RowV (h : Hh) (k : Nat) (x : PV) (r : List Nat) : Prop where
  seq : SeqV h x (nums r)
  nof : NoF x
  len : r.length ≤ 300
  dig : ∀ d ∈ r, d < k
theorem RowV.ext {h h' : Hh} {k : Nat} {x : PV} {r : List Nat} (v : RowV h k x r) (E : Ext h h') : RowV h' k x r := ⟨v.seq.ext E, v.nof, v.len, v.dig⟩
theorem sp_need_row {l k : Nat} {x : PV} {r : List Nat} {mv : List (List Nat)} {wd : List Nat} (b : 3 ≤ h.length) (w : IsW h l mv wd) (wf : Mx.WF k mv wd) (v : RowV h k x r) : W_need_row.run [.loc l, x] h (fun v h' => v = .non ∧ Ext h h') NX := by
  have := w.2
  unfold watchC at this
  unfold W_need_row
  walk_at "w"
  refine W_Watch_kinds.mono (sp_kinds w wf) ?_ fun _ _ z => z
  rintro _ _ ⟨rfl, rfl⟩
  refine W_need_row_of.mono (sp_need_row_of b v.seq v.nof v.len v.dig) ?_ fun _ _ z => z
  rintro _ h' ⟨rfl, E⟩
  exact E
theorem sp_need_both {l k : Nat} {x : PV} {r : List Nat} {mv : List (List Nat)} {wd : List Nat} (b : 3 ≤ h.length) (w : IsW h l mv wd) (wf : Mx.WF k mv wd) (v : RowV h k x r) : W_need_both.run [.loc l, x] h (fun v h' => v = .non ∧ Ext h h') NX := by
  unfold W_need_both
  walk_at "w"
  refine W_need_watch.mono (sp_need_watch w) ?_ fun _ _ z => z
  rintro _ _ ⟨rfl, rfl⟩
  walk_at "n"
  refine W_need_row.mono (sp_need_row b w wf v) ?_ fun _ _ z => z
  rintro _ h' ⟨rfl, E⟩
  exact E
theorem sp_led_from {l k p : Nat} {x : PV} {r : List Nat} {mv : List (List Nat)} {wd : List Nat} (w : IsW h l mv wd) (wf : Mx.WF k mv wd) (s : SeqV h x (nums r)) (dig : ∀ d ∈ r, d < k) (hp : p < mv.length) : W_led_from.run [.loc l, .int p, x] h (fun v h' => v = .int (Mx.led mv p r : Nat) ∧ h = h') NX := by
  unfold W_led_from
  walk_at "w"
  refine itr_of s fun ok hok => ?_
  refine for_inv (α := Nat) (f := fun n => .int n) (xs := r) (fun d e h' => ∃ o, e = [some (.loc l), some (.int (Mx.led mv p d : Nat)), some x, o] ∧ h = h') ⟨none, rfl, rfl⟩ (fun d e h' ⟨_, _, eh⟩ => by rw [← eh]; exact hok h (Ext.refl h)) ?_ ?_
  · rintro d n r' hr e h' ⟨o, rfl, rfl⟩
    have fw := w.2
    unfold watchC at fw
    walk_at "w"
    refine W_Watch_moves.mono (sp_moves w) ?_ fun _ _ z => z
    rintro _ _ ⟨rfl, rfl⟩
    have hd : Mx.led mv p d < mv.length := wf.led_lt hp fun z hz => dig z (by rw [hr]; simp [hz])
    have hn : n < k := dig n (by rw [hr]; simp)
    unfold encM
    walk_at "w"
    refine ⟨_, atI_rows hd, ?_⟩
    unfold encR
    walk_at "w"
    rw [atI_nums (by rw [wf.kl _ hd]; exact hn), Mx.led_snoc]; rfl
  · rintro e h' ⟨o, rfl, rfl⟩
    walk_at "n"
theorem sp_place_behind {l k : Nat} {x : PV} {r : List Nat} {mv : List (List Nat)} {wd : List Nat} (b : 3 ≤ h.length) (w : IsW h l mv wd) (wf : Mx.WF k mv wd) (v : RowV h k x r) : W_place_behind.run [.loc l, x] h (fun v h' => v = .int (Mx.led mv 0 r : Nat) ∧ Ext h h') NX := by
  unfold W_place_behind
  walk_at "w"
  refine W_need_both.mono (sp_need_both b w wf v) ?_ fun _ _ z => z
  rintro _ h1 ⟨rfl, E⟩
  walk_at "n"
  refine W_led_from.mono (sp_led_from (p := 0) (w.ext E) wf (v.seq.ext E) v.dig wf.pos) ?_ fun _ _ z => z
  rintro _ _ ⟨rfl, rfl⟩
  exact ⟨rfl, E⟩
theorem sp_verdict_of {l k : Nat} {x : PV} {r : List Nat} {mv : List (List Nat)} {wd : List Nat} (b : 3 ≤ h.length) (w : IsW h l mv wd) (wf : Mx.WF k mv wd) (v : RowV h k x r) : W_verdict_of.run [.loc l, x] h (fun v h' => v = .int (Mx.says mv wd 0 r : Nat) ∧ Ext h h') NX := by
  unfold W_verdict_of
  walk_at "w"
  refine W_need_both.mono (sp_need_both b w wf v) ?_ fun _ _ z => z
  rintro _ h1 ⟨rfl, E⟩
  have fw := (w.ext E).2
  unfold watchC at fw
  walk_at "n"
  refine W_Watch_words.mono (sp_words (w.ext E)) ?_ fun _ _ z => z
  rintro _ _ ⟨rfl, rfl⟩
  refine W_led_from.mono (sp_led_from (p := 0) (w.ext E) wf (v.seq.ext E) v.dig wf.pos) ?_ fun _ _ z => z
  rintro _ _ ⟨rfl, rfl⟩
  unfold encR
  walk_at "w"
  rw [atI_nums (by rw [wf.wl]; exact wf.led_lt wf.pos v.dig)]; rfl
theorem sp_Watch_eq {l l2 : Nat} {mv mv2 : List (List Nat)} {wd wd2 : List Nat} (w : IsW h l mv wd) (w2 : IsW h l2 mv2 wd2) {b : Bool} (hb : b = true ↔ mv = mv2 ∧ wd = wd2) : W_Watch_eq.run [.loc l, .loc l2] h (fun v h' => v = .bl b ∧ h = h') NX := by
  have f1 := w.2
  have f2 := w2.2
  unfold watchC at f1 f2
  unfold W_Watch_eq
  walk_at "w"
  refine isi1 (tag_watch w2) (tagok_watch w2) rfl (b := true) (by walk_at "kt") ?_
  have big := sl_big
  walk_at "w"
  refine ⟨by omega, by omega, ?_⟩
  have p1 := plain_rows mv
  have p2 := plain_nums wd
  have p3 := plain_rows mv2
  have p4 := plain_nums wd2
  refine eq_pl (b := b) ?_ ?_ ?_ ⟨rfl, rfl⟩
  · refine ⟨?_, ?_⟩
    · simp [PyA.plain, plainAll, encM, encR, p1, p2]
    · simp [pdep, pdeps, encM, encR]; omega
  · refine ⟨?_, ?_⟩
    · simp [PyA.plain, plainAll, encM, encR, p3, p4]
    · simp [pdep, pdeps, encM, encR]; omega
  · rw [hb]
    simp only [bare, bares, encM, encR, bares_rows, bares_nums, PV.tup.injEq, List.cons.injEq, and_true]
    exact ⟨fun ⟨a, b⟩ => ⟨by rw [a], by rw [b]⟩, fun ⟨a, b⟩ => ⟨rows_inj a, nums_inj b⟩⟩
end
end K92
end
section
set_option Elab.async false
set_option linter.all false
set_option maxRecDepth 100000
set_option maxHeartbeats 4000000
namespace K92
open PySem L2 PyA
local macro_rules | `(tactic| walk_at "w") => `(tactic| try simp only [w_var, w_c, w_nil, w_cons, w_star, w_tup, w_lst, w_o2, w_on, w_tb, w_chain, w_tand, w_tor, w_tnot, w_tys, w_and, w_or, w_not, w_ife, w_neg, w_call, w_callK, w_callP, w_callL, w_lam0, w_mt, w_fld, w_xf, w_prop, w_make, w_dic0, w_disp, w_pnil, w_pcons, w_lc, w_dc, w_lock, w_slock, w_lkAt, w_lkN, w_lkR, w_lkB, w_lkC, w_lkX, w_rg1, w_seq, w_skip, w_brk, w_cnt, w_exp, w_ret, w_retN, w_asg, w_if, w_par, w_par3, w_for, w_raise, w_try, w_sfld, w_nm, w_gnil, w_gcons, w_gtp, w_gix, w_o3, w_itS, w_itR1, w_itR2, w_itEn, w_itK, w_itKV, w_seqL, w_seqT, w_seqF, w_seqTF, w_enT, w_enF, w_enL, w_sub, w_mul, w_mod, w_fdiv, w_pow, w_lt, w_le, w_gt, w_ge, w_isN, w_notN, w_addI, w_addS, w_addT, w_ixT, w_ixF, w_ixL, w_lenT, w_lenF, w_lenTF, w_lenS, w_lenL, w_f1, w_i2, w_LI, w_LB, w_sort, w_listT, w_listF, w_listL, w_tupT, w_tupF, w_tupL, w_tupleF, w_lenSet, w_minD, w_tupIx, w_append, w_popAt, w_get, w_setd, w_recvL, w_itT, w_itF, w_itTF, w_itL, w_itI, w_itN, w_itB, w_itStr, w_F, w_L, w_lkm, w_lkw, w_ip1, w_ip2, w_fIntI, w_fIntB, w_fAbs, w_dkI, w_dkS, w_dkT, w_kind0, w_kindC, w_eqI, w_neI, Sum.isLeft_inl, Sum.isLeft_inr, decide_eq_true_eq, exists_false, exists_prop_of_true, w_itpL, w_itpF, w_itpT, w_itpTF, w_isNI, w_isNN, w_isNB, w_isNS, w_isNT, w_isNTF, w_isNF, w_isNL, w_isNX, wipeE, perm, List.map_cons, List.map_nil, List.getD_cons_zero, List.getD_cons_succ, List.length_cons, List.length_nil, List.replicate, List.cons_append, List.nil_append, List.append_nil, List.getElem?_cons_zero, List.getElem?_cons_succ, List.getElem?_nil, List.set_cons_zero, List.set_cons_succ, Option.some.injEq, Sum.inl.injEq, Sum.inr.injEq, PV.int.injEq, PV.bl.injEq, PV.loc.injEq, PV.tup.injEq, PV.str.injEq, PV.fls.injEq, PV.ftp.injEq, Cell.lst.injEq, Cell.dic.injEq, Cell.ins.injEq, Cell.dik.injEq, List.cons.injEq, exists_eq_left, exists_eq_left', exists_and_left, exists_and_right, exists_eq_right, exists_eq_right', exists_const, exists_eq, exists_eq', reduceCtorEq, false_and, and_false, true_and, and_true, or_false, false_or, true_or, or_true, and_self, if_true, if_false, Bool.false_eq_true, Bool.not_true, Bool.not_false, Nat.zero_add, Nat.reduceAdd, Nat.reduceSub, Nat.reduceLeDiff, Nat.reduceEqDiff, and_assoc, *])
local macro_rules | `(tactic| walk_at "n") => `(tactic| ((first | refine w_go ?_ | (dsimp only; refine w_go ?_) | (walk_at "w"; refine w_go ?_)); walk_at "w"))
local macro_rules | `(tactic| walk_at "v") => `(tactic| try simp only [w_var, w_c, w_nil, w_cons, w_star, w_tup, w_lst, w_o2, w_on, w_tb, w_chain, w_tand, w_tor, w_tnot, w_tys, w_and, w_or, w_not, w_ife, w_neg, w_call, w_callK, w_callP, w_callL, w_lam0, w_mt, w_fld, w_xf, w_prop, w_make, w_dic0, w_disp, w_pnil, w_pcons, w_lc, w_dc, w_lock, w_slock, w_lkAt, w_lkN, w_lkR, w_lkB, w_lkC, w_lkX, w_rg1, w_seq, w_skip, w_brk, w_cnt, w_exp, w_ret, w_retN, w_asg, w_if, w_par, w_par3, w_for, w_raise, w_try, w_sfld, w_nm, w_gnil, w_gcons, w_gtp, w_gix, w_o3, w_itS, w_itR1, w_itR2, w_itEn, w_itK, w_itKV, w_seqL, w_seqT, w_seqF, w_seqTF, w_enT, w_enF, w_enL, w_sub, w_mul, w_mod, w_fdiv, w_pow, w_lt, w_le, w_gt, w_ge, w_isN, w_notN, w_addI, w_addS, w_addT, w_ixT, w_ixF, w_lenT, w_lenF, w_lenTF, w_lenS, w_lenL, w_f1, w_i2, w_LI, w_LB, w_sort, w_listT, w_listF, w_listL, w_tupT, w_tupF, w_tupL, w_tupleF, w_lenSet, w_minD, w_tupIx, w_append, w_popAt, w_get, w_setd, w_recvL, w_itT, w_itF, w_itTF, w_itL, w_itI, w_itN, w_itB, w_itStr, w_F, w_L, w_lkm, w_lkw, w_ip1, w_ip2, w_fIntI, w_fIntB, w_fAbs, w_dkI, w_dkS, w_dkT, w_kind0, w_kindC, w_eqI, w_neI, Sum.isLeft_inl, Sum.isLeft_inr, decide_eq_true_eq, exists_false, exists_prop_of_true, w_itpL, w_itpF, w_itpT, w_itpTF, w_isNI, w_isNN, w_isNB, w_isNS, w_isNT, w_isNTF, w_isNF, w_isNL, w_isNX, wipeE, perm, List.map_cons, List.map_nil, List.getD_cons_zero, List.getD_cons_succ, List.length_cons, List.length_nil, List.replicate, List.cons_append, List.nil_append, List.append_nil, List.getElem?_cons_zero, List.getElem?_cons_succ, List.getElem?_nil, List.set_cons_zero, List.set_cons_succ, Option.some.injEq, Sum.inl.injEq, Sum.inr.injEq, PV.int.injEq, PV.bl.injEq, PV.loc.injEq, PV.tup.injEq, PV.str.injEq, PV.fls.injEq, PV.ftp.injEq, Cell.lst.injEq, Cell.dic.injEq, Cell.ins.injEq, Cell.dik.injEq, List.cons.injEq, exists_eq_left, exists_eq_left', exists_and_left, exists_and_right, exists_eq_right, exists_eq_right', exists_const, exists_eq, exists_eq', reduceCtorEq, false_and, and_false, true_and, and_true, or_false, false_or, true_or, or_true, and_self, if_true, if_false, Bool.false_eq_true, Bool.not_true, Bool.not_false, Nat.zero_add, Nat.reduceAdd, Nat.reduceSub, Nat.reduceLeDiff, Nat.reduceEqDiff, and_assoc, *])
section
variable {h : Hh}
/-- what lies behind moves[p] -/
structure LookV (h : Hh) (x : PV) (P : Nat → Prop) (look : Nat → List Nat) : Prop where
  look : ∀ p, P p → ∃ y, SeqV h y (nums (look p)) ∧ ∀ h' Q, Ext h h' → Q y h' → oIx.run x (.int p) h' Q
theorem look_tup {mv : List (List Nat)} : LookV h (encM mv) (fun p => p < mv.length) (Mx.goals mv) :=
  ⟨fun p hp => ⟨encR (Mx.goals mv p), rfl, fun h' Q E q => ⟨p, _, rfl, atI_rows hp, q⟩⟩⟩
theorem sp_found_places {x : PV} {P : Nat → Prop} {look : Nat → List Nat} {a m : Nat} (b : 3 ≤ h.length) (X : LookV h x P look) (ha : P a) (hc : ∀ p g, P p → g ∈ look p → P g) (hm : ∀ p, P p → p < m) (m4 : m ≤ 900) :
    W_found_places.run [x, .int a] h (fun v h' => ∃ l, v = .loc l ∧ Own h h' [(l, .lst (nums (Mx.bfs look a m)))]) NX := by
  have big := sl_big
  have al : ∀ n, (Mx.bfs look a n).length ≤ m := fun n => Mx.nodup_len (Mx.bfs_nodup n) fun y hy => hm y (Mx.bfs_ind (P := P) ha hc n y hy)
  unfold W_found_places
  walk_at "w"
  refine ⟨by omega, new_own (Own.start b) fun l h1 O1 => ?_⟩
  walk_at "n"
  refine while_inv (n := m) (fun n e h' => ∃ (s : Nat) (o : Option PV), n = m - s ∧ s ≤ (Mx.bfs look a s).length ∧ e = [some x, some (.int a), some (.loc l), some (.int s), o] ∧ Own h h' [(l, .lst (nums (Mx.bfs look a s)))]) ⟨0, none, rfl, Nat.zero_le _, rfl, O1⟩ ?_
  rintro n e h' ⟨s, o, rfl, hs, rfl, O⟩
  have f := O.f1
  walk_at "w"
  rw [nums_len]
  by_cases hlt : s < (Mx.bfs look a s).length
  · have hi : (s : Int) < ((Mx.bfs look a s).length : Nat) := by omega
    simp only [hi, if_true]
    obtain ⟨p, hp⟩ : ∃ p, (Mx.bfs look a s)[s]? = some p := ⟨_, List.getElem?_eq_getElem hlt⟩
    have Pp : P p := Mx.bfs_ind (P := P) ha hc s p (List.mem_of_getElem? hp)
    refine ⟨_, atI_nums hlt, ?_⟩
    have ep : (Mx.bfs look a s).getD s 0 = p := by rw [List.getD_eq_getElem?_getD, hp]; rfl
    rw [ep]
    obtain ⟨y, sy, hy⟩ := X.look p Pp
    refine hy h' _ O.ext ?_
    refine itr_at sy O.ext fun ok hok => ?_
    refine for_inv (α := Nat) (f := fun n => .int n) (xs := look p) (fun d e h'' => ∃ o, e = [some x, some (.int a), some (.loc l), some (.int s), o] ∧ Own h h'' [(l, .lst (nums (Mx.addNew (Mx.bfs look a s) d)))]) ⟨o, rfl, O⟩ (fun d e h'' ⟨_, _, O'⟩ => hok h'' O'.ext) ?_ ?_
    · rintro d g r hd e h'' ⟨o, rfl, O'⟩
      have f' := O'.f1
      walk_at "w"
      have hpl := plain_nums (Mx.addNew (Mx.bfs look a s) d)
      refine notin_lst f' hpl.1 (by omega) pl_int (b := decide (g ∉ Mx.addNew (Mx.bfs look a s) d)) (by rw [ex_nums]; simp) ?_
      walk_at "w"
      rw [Mx.addNew_snoc]
      split
      · rename_i hg
        have hlen : (Mx.addNew (Mx.bfs look a s) d).length ≤ m := Mx.nodup_len (Mx.addNew_nodup (Mx.bfs_nodup s)) fun z hz => by
          rw [Mx.mem_addNew] at hz
          rcases hz with hz | hz
          · exact hm z (Mx.bfs_ind (P := P) ha hc s z hz)
          · exact hm z (hc p z Pp (by rw [hd]; simp [hz]))
        refine ⟨by rw [nums_len]; omega, put_own O' 0 rfl fun h3 O3 => ?_⟩
        rw [nums_snoc]
        exact O3
      · rename_i hg
        rw [if_pos (by simpa using hg)]
        exact O'
    · rintro e h'' ⟨o, rfl, O'⟩
      walk_at "n"
      rw [← Mx.bfs_succ_some hp] at O'
      refine ⟨m - (s + 1), by have := al s; omega, s + 1, rfl, ?_, ?_, O'⟩
      · obtain ⟨t, e⟩ := Mx.bfs_pre1 (look := look) (a := a) s
        rw [e]; simp; omega
      · simp
  · have hi : ¬ (s : Int) < ((Mx.bfs look a s).length : Nat) := by omega
    simp only [hi, if_false]
    walk_at "n"
    have e1 : Mx.bfs look a s = Mx.bfs look a m := by
      have h1 := Mx.bfs_stable (look := look) (a := a) (n := s) (by omega) m
      have h2 := Mx.bfs_stable (look := look) (a := a) (n := m) (al m) s
      rw [← h1, ← h2, Nat.add_comm]
    rw [← e1]
    exact O
def knownD (kk : List Nat → DK) (K : List (List Nat)) : List (DK × PV) := K.map fun r => (kk r, .int (K.idxOf r : Nat))
theorem knownD_snoc {kk : List Nat → DK} {K : List (List Nat)} {r : List Nat} (nd : K.Nodup) (h : r ∉ K) : knownD kk K ++ [(kk r, .int (K.length : Nat))] = knownD kk (K ++ [r]) := by
  unfold knownD
  rw [List.map_append]
  congr 1
  · refine List.map_congr_left fun s hs => ?_
    rw [List.idxOf_append, if_pos hs]
  · simp [List.idxOf_append, h]
theorem sp_numbered {h0 : Hh} {lr : Nat} {L : List (Nat × Cell)} {S : List Nat} {key : Nat → List Nat} {enc : List Nat → PV} {kk : List Nat → DK} {G : List Nat → Prop} (O : Own h0 h ((lr, .dic false (S.map fun p => (plc p, enc (key p)))) :: L)) (nd : S.Nodup) (ne : S ≠ []) (hS : S.length ≤ 900)
    (hG : ∀ p ∈ S, G (key p)) (hk : ∀ r, G r → dk? (enc r) = some (kk r)) (inj : ∀ r s, G r → G s → kk r = kk s → r = s) (lf : ∀ r s, G r → G s → (kk r).isLeft = (kk s).isLeft) :
    W_numbered.run [.loc lr] h (fun v h' => ∃ l, v = .loc l ∧ Own h0 h' ((l, .dic false (S.map fun p => (plc p, .int (Mx.labP S key p : Nat)))) :: (lr, .dic false (S.map fun p => (plc p, enc (key p)))) :: L)) NX := by
  have big := sl_big
  unfold W_numbered
  walk_at "w"
  refine new_own O fun k h1 O1 => new_own O1 fun f h2 O2 => ?_
  walk_at "n"
  refine ⟨lr, _, O2.get (.tail _ (.tail _ (.head _))), put_own O2 2 rfl fun h3 O3 => ?_⟩
  have f3 := O3.f3
  walk_at "w"
  refine ⟨fun p hp => ?_, by simpa using ne, ?_⟩
  · obtain ⟨q, _, rfl⟩ := List.mem_map.mp hp
    rfl
  rw [List.map_map]
  refine for_inv (α := Nat) (f := fun p => .tup [.int (p : Nat), enc (key p)]) (xs := S) (fun d e h' => ∃ o1 o2 : Option PV, e = [some (.loc lr), some (.loc k), some (.loc f), o1, o2] ∧
    Own h0 h' ((f, .dic false (d.map fun p => (plc p, .int (Mx.labP S key p : Nat)))) :: (k, .dic false (knownD kk (Mx.addK [] (d.map key)))) :: (lr, .dic true (S.map fun p => (plc p, enc (key p)))) :: L)) ⟨none, none, rfl, O3⟩ (fun _ _ _ _ => trivial) ?_ ?_
  · rintro d p r hd0 e h' ⟨o1, o2, rfl, O⟩
    have hd := hd0.symm
    clear hd0
    have ff := O.f3
    have hp : p ∈ S := by rw [← hd]; simp
    have gp := hG p hp
    have Kg : ∀ s ∈ Mx.addK [] (d.map key), G s := fun s hs => by
      rw [Mx.mem_addK] at hs
      rcases hs with hs | hs
      · cases hs
      · obtain ⟨q, hq, rfl⟩ := List.mem_map.mp hs
        exact hG q (by rw [← hd]; simp [hq])
    have Kn : (Mx.addK [] (d.map key)).Nodup := Mx.addK_nodup List.nodup_nil
    have Kl : (Mx.addK [] (d.map key)).length ≤ d.length := by simpa using Mx.addK_len (d.map key)
    have dl : d.length < S.length := by rw [← hd]; simp
    have kd : PyA.Kind (knownD kk (Mx.addK [] (d.map key))) (kk (key p)) := kind_map fun s hs => lf s _ (Kg s hs) gp
    have look : dLook (knownD kk (Mx.addK [] (d.map key))) (kk (key p)) = if key p ∈ Mx.addK [] (d.map key) then some (.int ((Mx.addK [] (d.map key)).idxOf (key p) : Nat)) else none := by
      split
      · rename_i hm
        exact dLook_map (kf := kk) (vf := fun r => .int ((Mx.addK [] (d.map key)).idxOf r : Nat)) (fun a b ha hb e => inj a b (Kg a ha) (Kg b hb) e) hm
      · rename_i hm
        refine dLook_none fun q hq => ?_
        obtain ⟨s, hs, rfl⟩ := List.mem_map.mp hq
        exact fun e => hm (inj s _ (Kg s hs) gp e ▸ hs)
    -- the last step, once the number is known
    have last : ∀ h4, Own h0 h4 ((f, .dic false (d.map fun p => (plc p, .int (Mx.labP S key p : Nat)))) :: (k, .dic false (knownD kk (Mx.addK [] ((d ++ [p]).map key)))) :: (lr, .dic true (S.map fun p => (plc p, enc (key p)))) :: L) →
        ∀ (D : AD), (∀ o1 o2 h', Own h0 h' ((f, .dic false ((d ++ [p]).map fun p => (plc p, .int (Mx.labP S key p : Nat)))) :: (k, .dic false (knownD kk (Mx.addK [] ((d ++ [p]).map key)))) :: (lr, .dic true (S.map fun p => (plc p, enc (key p)))) :: L) → D.nx [some (.loc lr), some (.loc k), some (.loc f), o1, o2] h') →
        Later (sAsg (aO2 oIx (aVar 1) (aVar 4)) (gIx (aVar 2) (aVar 3))) D [some (.loc lr), some (.loc k), some (.loc f), some (.int (p : Nat)), some (enc (key p))] h4 := by
      intro h4 O4 D hD
      have f4 := O4.f3
      have mem : key p ∈ Mx.addK [] ((d ++ [p]).map key) := Mx.mem_addK.mpr (.inr (List.mem_map.mpr ⟨p, by simp, rfl⟩))
      have Kg' : ∀ s ∈ Mx.addK [] ((d ++ [p]).map key), G s := fun s hs => by
        rw [Mx.mem_addK] at hs
        rcases hs with hs | hs
        · cases hs
        · obtain ⟨q, hq, rfl⟩ := List.mem_map.mp hs
          refine hG q ?_
          rw [← hd]
          rcases List.mem_append.mp hq with hq | hq
          · simp [hq]
          · simp at hq; simp [hq]
      refine w_go ?_
      simp only [w_asg, w_o2, w_var, List.getElem?_cons_zero, List.getElem?_cons_succ, Option.some.injEq, exists_eq_left']
      refine ix_dic f4.2.1 (hk _ gp) (kind_map fun s hs => lf s _ (Kg' s hs) gp) (dLook_map (kf := kk) (vf := fun r => .int ((Mx.addK [] ((d ++ [p]).map key)).idxOf r : Nat)) (fun a b ha hb e => inj a b (Kg' a ha) (Kg' b hb) e) mem) ?_
      walk_at "w"
      refine ⟨kind_map fun _ _ => rfl, by simp; omega, put_own O4 0 rfl fun h5 O5 => ?_⟩
      have np : ∀ q ∈ d.map (fun p => (plc p, PV.int (Mx.labP S key p : Nat))), q.1 ≠ plc p := by
        intro q hq e
        obtain ⟨s, hs, rfl⟩ := List.mem_map.mp hq
        have := plc_inj e
        subst this
        rw [← hd] at nd
        exact (List.nodup_append.mp nd).2.2 s hs s (by simp) rfl
      have lab : (Mx.addK [] ((d ++ [p]).map key)).idxOf (key p) = Mx.labP S key p := by
        unfold Mx.labP
        have : S.map key = (d ++ [p]).map key ++ r.map key := by rw [← hd]; simp
        rw [this]
        exact (Mx.idxOf_addK mem).symm
      rw [dPut_new np, lab] at O5
      refine hD _ _ h5 ?_
      rw [List.map_append (l₁ := d)]
      exact O5
    walk_at "w"
    refine notin_dic ff.2.1 (hk _ gp) kd (b := decide (key p ∉ Mx.addK [] (d.map key))) (by rw [look]; split <;> simp_all) ?_
    walk_at "w"
    split
    · rename_i hm
      have hm : key p ∉ Mx.addK [] (d.map key) := by simpa using hm
      refine ⟨by unfold knownD; simp; omega, put_own O 1 rfl fun h4 O4 => ?_⟩
      have e4 : dPut (knownD kk (Mx.addK [] (d.map key))) (kk (key p)) (.int ((knownD kk (Mx.addK [] (d.map key))).length : Nat)) = knownD kk (Mx.addK [] ((d ++ [p]).map key)) := by
        rw [dPut_new, show (knownD kk (Mx.addK [] (d.map key))).length = (Mx.addK [] (d.map key)).length by simp [knownD], knownD_snoc Kn hm, List.map_append, List.map_cons, List.map_nil, Mx.addK_snoc, if_neg hm]
        intro q hq e
        obtain ⟨s, hs, rfl⟩ := List.mem_map.mp hq
        exact hm (inj s _ (Kg s hs) gp e ▸ hs)
      rw [e4] at O4
      exact last h4 O4 _ fun o1 o2 h5 O5 => ⟨⟨o1, o2, rfl⟩, O5⟩
    · rename_i hm
      have hm : key p ∈ Mx.addK [] (d.map key) := by simpa using hm
      have e4 : Mx.addK [] ((d ++ [p]).map key) = Mx.addK [] (d.map key) := by
        rw [List.map_append, List.map_cons, List.map_nil, Mx.addK_snoc, if_pos hm]
      exact last h' (by rw [e4]; exact O) _ fun o1 o2 h5 O5 => ⟨⟨o1, o2, rfl⟩, O5⟩
  · rintro e h' ⟨o1, o2, rfl, O⟩
    have ff := O.f3
    walk_at "w"
    refine put_own O 2 rfl fun h4 O4 => ?_
    walk_at "n"
    exact O4.sub (.cons₂ _ (.cons _ (List.Sublist.refl _)))
/-- the marks of places, as a dict -/
def marksD (S : List Nat) (c : Nat → Nat) : List (DK × PV) := S.map fun p => (plc p, .int (c p : Nat))
theorem marksD_kind {S : List Nat} {c : Nat → Nat} {p : Nat} : PyA.Kind (marksD S c) (plc p) := kind_map fun _ _ => rfl
theorem marksD_look {S : List Nat} {c : Nat → Nat} {p : Nat} (hp : p ∈ S) : dLook (marksD S c) (plc p) = some (.int (c p : Nat)) := dLook_map (kf := plc) (fun a b _ _ e => plc_inj e) hp
theorem ix_marks {S : List Nat} {c : Nat → Nat} {p l : Nat} {lk : Bool} {Q : QV} (hl : h[l]? = some (.dic lk (marksD S c))) (hp : p ∈ S) (q : Q (.int (c p : Nat)) h) : oIx.run (.loc l) (.int (p : Nat)) h Q := ix_dic hl dk_plc marksD_kind (marksD_look hp) q
/-- {place: .. for place in places} -/
theorem dc_places {h0 : Hh} {D : Nat} {L : List (Nat × Cell)} {S : List Nat} {vf : Nat → PV} {g : AG} {C : AT} {A B : AE} {ok : Hh → Prop} {e : Ev} {Q : QV} (O : Own h0 h ((D, .dik []) :: L)) (nd : S.Nodup) (hS : S.length ≤ 900) (hok : ∀ acc h', Own h0 h' ((D, .dik acc) :: L) → ok h')
    (step : ∀ p, p ∈ S → ∀ acc h', Own h0 h' ((D, .dik acc) :: L) → g.run (.int (p : Nat)) e h' fun e2 h2 => C.run e2 h2 (fun b h3 => b = true ∧ A.run e2 h3 (fun y h4 => y = .int (p : Nat) ∧ B.run e2 h4 (fun z h5 => z = vf p ∧ Ext h' h5) NX) NX) NX)
    (fin : ∀ h', Own h0 h' ((D, .dic false (S.map fun p => (plc p, vf p))) :: L) → Q (.loc D) h') : compD g C A B ok e D Q (nums S) h := by
  have big := sl_big
  refine dc_own O (f := fun n : Nat => .int n) (xs := S) (fun d acc => acc = d.map fun p => (plc p, vf p)) rfl (by omega) hok (fun d acc h => by rw [h]; simp) ?_ ?_
  · rintro d p r acc h' hd rfl O'
    refine g.mono (step p (by rw [hd]; simp) _ h' O') fun e2 h2 q => C.mono q (fun b h3 ⟨e1, q⟩ => ?_) fun _ _ z => z
    rw [if_pos e1]
    refine A.mono q (fun y h4 ⟨e2, q⟩ => B.mono q (fun z h5 ⟨e3, E⟩ => ?_) fun _ _ z => z) fun _ _ z => z
    subst e2 e3
    refine ⟨_, rfl, O'.call E, ?_⟩
    rw [List.map_append]
    refine dPut_new fun q hq e => ?_
    obtain ⟨s, hs, rfl⟩ := List.mem_map.mp hq
    have := plc_inj e
    subst this
    rw [hd] at nd
    exact (List.nodup_append.mp nd).2.2 s hs s (by simp) rfl
  · rintro acc h' O' rfl
    exact fin h' O'
/-- [marks[place] for place in places] -/
theorem lc_marks {h0 : Hh} {D : Nat} {L : List (Nat × Cell)} {c : Nat → Nat} {xs : List Nat} {g : AG} {C : AT} {A : AE} {ok : Hh → Prop} {e : Ev} {Q : QV} (O : Own h0 h ((D, .lst []) :: L)) (hS : xs.length ≤ 900) (hok : ∀ acc h', Own h0 h' ((D, .lst acc) :: L) → ok h')
    (step : ∀ p, p ∈ xs → ∀ acc h', Own h0 h' ((D, .lst acc) :: L) → g.run (.int (p : Nat)) e h' fun e2 h2 => C.run e2 h2 (fun b h3 => b = true ∧ Ext h' h3 ∧ A.run e2 h3 (fun z h5 => z = .int (c p : Nat) ∧ Ext h' h5) NX) NX)
    (fin : ∀ h', Own h0 h' ((D, .lst (nums (xs.map c))) :: L) → Q (.loc D) h') : compL g C A ok e D Q (nums xs) h := by
  have big := sl_big
  refine lc_map O (f := fun n : Nat => .int n) (xs := xs) (fun p => .int (c p : Nat)) (by omega) hok step fun h' O' => fin h' ?_
  rw [show nums (xs.map c) = xs.map (fun p => PV.int (c p : Nat)) by unfold nums; rw [List.map_map]; rfl]
  exact O'
theorem sp_marks_of {k lp : Nat} {mv : List (List Nat)} {wd : List Nat} {h0 : Hh} (w : Mx.WF k mv wd) (hm : mv.length ≤ 900) (hk : k ≤ 900) (O : Own h0 h [(lp, .lst (nums (Mx.bfs (Mx.goals mv) 0 mv.length)))]) :
    W_marks_of.run [encM mv, encR wd, .loc lp] h (fun v h' => ∃ l t, v = .loc l ∧ Mx.Labels k mv wd (Mx.marksN (Mx.bfs (Mx.goals mv) 0 mv.length) mv wd (t + 1)) ∧ Own h0 h' [(l, .dic false (marksD (Mx.bfs (Mx.goals mv) 0 mv.length) (Mx.marksN (Mx.bfs (Mx.goals mv) 0 mv.length) mv wd (t + 1)))), (lp, .lst (nums (Mx.bfs (Mx.goals mv) 0 mv.length)))]) NX := by
  have big := sl_big
  generalize eS : Mx.bfs (Mx.goals mv) 0 mv.length = S at O ⊢
  have Snd : S.Nodup := eS ▸ Mx.bfs_nodup _
  have S0 : 0 ∈ S := eS ▸ Mx.bfs_mem _
  have Slt : ∀ p ∈ S, p < mv.length := fun p hp => by
    rw [← eS] at hp
    exact Mx.bfs_ind (P := fun x => x < mv.length) w.pos (fun p g hp hg => w.lt p g hp hg) _ p hp
  have Sc : ∀ p g, p ∈ S → g ∈ Mx.goals mv p → g ∈ S := fun p g hp hg => by
    rw [← eS] at hp ⊢
    exact Mx.bfs_all w.pos (fun p g hp hg => w.lt p g hp hg) hp hg
  have Sl : S.length ≤ mv.length := Mx.nodup_len Snd Slt
  have M := Mx.marksN_moore S mv wd
  have f0 := O.f1
  unfold W_marks_of
  walk_at "w"
  have wl := w.wl
  refine new_own (Own.start O.b) fun l1 h1 O1 => ?_
  refine dc_places O1 Snd (by omega) (fun _ _ O' => by have := O'.ext.get f0 (Nat.le_trans O.base O.ge1); exact this) ?_ ?_ (vf := fun p => .int (wd.getD p 0 : Nat))
  · intro p hp acc h' O'
    have := Slt p hp
    unfold encR
    walk_at "w"
    exact ⟨_, atI_nums (by omega), rfl, Ext.refl _⟩
  intro h2 O2
  have J2 := O.join O2
  refine W_numbered.mono (sp_numbered (key := fun p => [wd.getD p 0]) (enc := fun r => .int (r.headD 0 : Nat)) (kk := fun r => plc (r.headD 0)) (G := fun r => r.length = 1) J2 Snd (fun e => by rw [e] at S0; cases S0) (by omega) (fun _ _ => rfl) (fun _ _ => rfl) (fun r s hr hs e => ?_) (fun _ _ _ _ => rfl)) ?_ fun _ _ z => z
  · have := plc_inj e
    match r, s, hr, hs with
    | [a], [b], _, _ => simpa using this
  rintro v h3 ⟨lm, rfl, O3⟩
  replace O3 := O3.sub (M := [(lm, _), (lp, _)]) (.cons₂ _ (.cons _ (.cons₂ _ .slnil)))
  walk_at "n"
  walk_at "n"
  let cnt : Nat → Nat := fun t => Mx.many (S.map (Mx.marksN S mv wd t))
  have cl : ∀ t, cnt t ≤ mv.length := fun t => by
    have := Mx.sub_len (m := S.map (Mx.marksN S mv wd t)) (Mx.dedup_nodup (S.map (Mx.marksN S mv wd t))) fun x hx => Mx.mem_dedup.mp hx
    simp [Mx.many] at this
    show (Mx.addNew [] _).length ≤ _
    omega
  have cp : 0 < cnt 0 := by
    have : Mx.marksN S mv wd 0 0 ∈ Mx.addNew [] (S.map (Mx.marksN S mv wd 0)) := Mx.mem_dedup.mpr (List.mem_map_of_mem S0)
    exact List.length_pos_of_mem this
  have cm : ∀ t, cnt t ≤ cnt (t + 1) := fun t => (Mx.finer fun p q hp hq e => ((M.step t p q hp hq).mp e).1).1
  refine while_inv (n := mv.length + 1) (fun n e h' => ∃ (mn t lm : Nat) (o1 o2 : Option PV), n = mv.length + 1 - mn ∧ e = [some (encM mv), some (encR wd), some (.loc lp), some (.loc lm), some (.int (mn : Nat)), o1, o2] ∧ ((t = 0 ∧ mn = 0) ∨ ∃ t', t = t' + 1 ∧ mn = cnt t') ∧
    Own h0 h' [(lm, .dic false (marksD S (Mx.marksN S mv wd t))), (lp, .lst (nums S))]) ⟨0, 0, lm, none, none, rfl, rfl, .inl ⟨rfl, rfl⟩, O3⟩ ?_
  rintro n e h' ⟨mn, t, lm, o1, o2, rfl, rfl, ht, O⟩
  have f := O.f2
  walk_at "w"
  refine new_own (Own.start O.b) fun l4 h4 O4 => ?_
  refine lc_marks (c := Mx.marksN S mv wd t) O4 (by omega) (fun _ _ O' => (O.join O').get (.tail _ (.tail _ (.head _)))) ?_ ?_
  · intro p hp acc h5 O5
    have f5 := (O.join O5).f3
    walk_at "w"
    exact ⟨Ext.refl _, marksD_kind, _, marksD_look hp, rfl, Ext.refl _⟩
  intro h5 O5
  have J5 := O.join O5
  have f5 := O5.f1
  have e5 : ∀ c : Nat → Nat, nums (S.map c) = (S.map fun p => ((c p : Nat) : Int)).map PV.int := fun c => by unfold nums; rw [List.map_map, List.map_map]; rfl
  have e6 : PyN.manyI (S.map fun p => ((Mx.marksN S mv wd t p : Nat) : Int)) = cnt t := by
    have := many_eq (S.map (Mx.marksN S mv wd t))
    rw [List.map_map] at this
    exact this
  rw [e5] at f5
  walk_at "w"
  refine ⟨_, rfl, by simp; omega, ?_⟩
  rw [e6]
  by_cases hc : mn = cnt t
  · simp only [hc, decide_true, Bool.not_true, Bool.false_eq_true, if_false]
    walk_at "n"
    rcases ht with ⟨rfl, rfl⟩ | ⟨t', rfl, rfl⟩
    · omega
    · refine ⟨t', ?_, J5.sub (.cons _ (List.Sublist.refl _))⟩
      have := Mx.marks_labels w (t := t') (by rw [eS]; exact hc.symm)
      rw [eS] at this
      exact this
  · have hc' : ¬ ((mn : Nat) : Int) = (cnt t : Nat) := by omega
    simp only [hc', decide_false, Bool.not_false, if_true]
    have J5' := J5.sub (M := [(lm, _), (lp, _)]) (.cons _ (List.Sublist.refl _))
    have g5 := J5'.f2
    clear f5
    walk_at "w"
    refine new_own (Own.start J5'.b) fun l6 h6 O6 => ?_
    refine lc_marks (c := Mx.marksN S mv wd t) O6 (by omega) (fun _ _ O' => (J5'.join O').get (.tail _ (.tail _ (.head _)))) ?_ ?_
    · intro p hp acc h7 O7
      have f7 := (J5'.join O7).f3
      walk_at "w"
      exact ⟨Ext.refl _, marksD_kind, _, marksD_look hp, rfl, Ext.refl _⟩
    intro h7 O7
    have J7 := (J5'.join O7).sub (M := [(lm, _), (lp, _)]) (.cons _ (List.Sublist.refl _))
    have f7 := O7.f1
    rw [e5] at f7
    walk_at "w"
    refine ⟨_, rfl, by simp; omega, ?_⟩
    rw [e6]
    have g7 := J7.f2
    walk_at "n"
    refine new_own (Own.start J7.b) fun l8 h8 O8 => ?_
    refine dc_places O8 Snd (by omega) (fun _ _ O' => (J7.join O').get (.tail _ (.tail _ (.head _)))) ?_ ?_ (vf := fun p => encR (Mx.marksN S mv wd t p :: (Mx.goals mv p).map (Mx.marksN S mv wd t)))
    · intro p hp acc h9 O9
      have f9 := (J7.join O9).f3
      have gl : (Mx.goals mv p).length = k := w.kl p (Slt p hp)
      unfold encM
      walk_at "w"
      refine ⟨marksD_kind, _, marksD_look hp, _, atI_rows (Slt p hp), ?_⟩
      unfold encR
      walk_at "w"
      refine new_own (Own.start O9.b) fun l10 h10 O10 => ?_
      refine lc_marks (c := Mx.marksN S mv wd t) O10 (by omega) (fun _ _ O' => trivial) ?_ ?_
      · intro q hq acc h11 O11
        have f11 := (J7.join (O9.join O11)).f4
        walk_at "w"
        exact ⟨Ext.refl _, marksD_kind, _, marksD_look (Sc p q hp hq), rfl, Ext.refl _⟩
      · intro h11 O11
        have f11 := O11.f1
        walk_at "w"
        exact ⟨by rw [nums_len, List.length_map]; omega, rfl, O11.ext⟩
    · intro h9 O9
      have J9 := J7.join O9
      refine W_numbered.mono (sp_numbered (key := fun p => Mx.marksN S mv wd t p :: (Mx.goals mv p).map (Mx.marksN S mv wd t)) (enc := encR) (kk := rowK) (G := fun _ => True) J9 Snd (fun e => by rw [e] at S0; cases S0) (by omega) (fun _ _ => trivial) (fun _ _ => dk_row) (fun r s _ _ e => rowK_inj e) (fun _ _ _ _ => rfl)) ?_ fun _ _ z => z
      rintro v h10 ⟨l10, rfl, O10⟩
      replace O10 := O10.sub (M := [(l10, _), (lp, _)]) (.cons₂ _ (.cons _ (.cons _ (.cons₂ _ .slnil))))
      have grow : mn < cnt t := by
        rcases ht with ⟨rfl, rfl⟩ | ⟨t', rfl, rfl⟩
        · exact cp
        · have := cm t'
          omega
      refine ⟨mv.length + 1 - cnt t, by have := cl t; omega, cnt t, rfl, t + 1, l10, rfl, rfl, .inr ⟨t, rfl, rfl⟩, O10⟩
def headsD (c : Nat → Nat) (H : List Nat) : List (DK × PV) := H.map fun p => (plc (c p), .int (p : Nat))
theorem headsD_kind {c : Nat → Nat} {H : List Nat} {x : Nat} : PyA.Kind (headsD c H) (plc x) := kind_map fun _ _ => rfl
theorem headsD_look {c : Nat → Nat} {H : List Nat} (nd : (H.map c).Nodup) {x : Nat} (hx : x ∈ H.map c) : dLook (headsD c H) (plc x) = some (.int (Mx.headOf c H x : Nat)) := by
  obtain ⟨p, hp, rfl⟩ := List.mem_map.mp hx
  rw [Mx.headOf_self nd hp]
  refine dLook_map (kf := fun p => plc (c p)) (vf := fun p => .int (p : Nat)) (fun a b ha hb e => ?_) hp
  have e := plc_inj e
  rw [← Mx.headOf_self nd ha, ← Mx.headOf_self nd hb, e]
theorem headsD_none {c : Nat → Nat} {H : List Nat} {x : Nat} (hx : x ∉ H.map c) : dLook (headsD c H) (plc x) = none := dLook_none fun q hq e => by
  obtain ⟨p, hp, rfl⟩ := List.mem_map.mp hq
  exact hx (plc_inj e ▸ List.mem_map_of_mem hp)
theorem sp_least_tables {k : Nat} {mv : List (List Nat)} {wd : List Nat} (w : Mx.WF k mv wd) (hm : mv.length ≤ 900) (hk : k ≤ 900) (b : 3 ≤ h.length) :
    W_least_tables.run [encM mv, encR wd] h (fun v h' => ∃ lf lw tbl wds, v = .tup [.loc lf, .loc lw] ∧ Mx.Least k tbl wds (Mx.says mv wd 0) ∧ tbl.length ≤ mv.length ∧ (∀ x ∈ wds, x ∈ wd) ∧ Own h h' [(lw, .lst (nums wds)), (lf, .lst (tbl.map encR))]) NX := by
  have big := sl_big
  unfold W_least_tables
  walk_at "w"
  refine W_found_places.mono (sp_found_places b look_tup w.pos (fun p g hp hg => w.lt p g hp hg) (fun p hp => hp) hm) ?_ fun _ _ z => z
  rintro v h1 ⟨l2, rfl, O1⟩
  walk_at "n"
  refine W_marks_of.mono (sp_marks_of w hm hk O1) ?_ fun _ _ z => z
  rintro v h2 ⟨l3, t, rfl, Lb, O2⟩
  generalize eS : Mx.bfs (Mx.goals mv) 0 mv.length = S at O2 Lb
  have Snd : S.Nodup := eS ▸ Mx.bfs_nodup _
  have S0 : 0 ∈ S := eS ▸ Mx.bfs_mem _
  have Slt : ∀ p ∈ S, p < mv.length := fun p hp => by
    rw [← eS] at hp
    exact Mx.bfs_ind (P := fun x => x < mv.length) w.pos (fun p g hp hg => w.lt p g hp hg) _ p hp
  have Sc : ∀ p g, p ∈ S → g ∈ Mx.goals mv p → g ∈ S := fun p g hp hg => by
    rw [← eS] at hp ⊢
    exact Mx.bfs_all w.pos (fun p g hp hg => w.lt p g hp hg) hp hg
  have Sl : S.length ≤ mv.length := Mx.nodup_len Snd Slt
  have cl : ∀ p ∈ S, Mx.marksN S mv wd (t + 1) p < mv.length := fun p hp => by
    have := Mx.marksN_lt (mv := mv) (wd := wd) (t := t + 1) hp
    omega
  generalize Mx.marksN S mv wd (t + 1) = c at O2 Lb cl
  walk_at "n"
  refine new_own O2 fun l4 h4 O4 => ?_
  have f4 := O4.f3
  walk_at "n"
  refine for_inv (α := Nat) (f := fun n => .int n) (xs := S) (fun d e h' => ∃ o : Option PV, e = [some (encM mv), some (encR wd), some (.loc l2), some (.loc l3), some (.loc l4), o, none, none, none, none, none] ∧
    Own h h' [(l4, .dic false (headsD c (Mx.firsts c d))), (l3, .dic false (marksD S c)), (l2, .lst (nums S))]) ⟨none, rfl, O4⟩ (fun d e h' ⟨_, _, O'⟩ => O'.f3.2.2) ?_ ?_
  · rintro d p r hd0 e h' ⟨o, rfl, O⟩
    have hd := hd0.symm
    clear hd0
    have hp : p ∈ S := by rw [← hd]; simp
    have f := O.f3
    have Fs := Mx.firsts_sub c d
    have dl : d.length < S.length := by rw [← hd]; simp
    walk_at "w"
    refine ⟨marksD_kind, _, marksD_look hp, ?_⟩
    walk_at "w"
    refine ⟨headsD_kind, by unfold headsD; simp; omega, ?_⟩
    rw [Mx.firsts_snoc]
    by_cases hm : c p ∈ (Mx.firsts c d).map c
    · rw [if_pos hm]
      exact .inl ⟨⟨_, headsD_look Fs.2.1 hm⟩, by simpa using O⟩
    · rw [if_neg hm]
      refine .inr ⟨headsD_none hm, put_own O 0 rfl fun h5 O5 => ?_⟩
      have e : dPut (headsD c (Mx.firsts c d)) (plc (c p)) (.int (p : Nat)) = headsD c (Mx.firsts c d ++ [p]) := by
        rw [dPut_new]
        · unfold headsD; rw [List.map_append]; rfl
        · intro q hq e
          obtain ⟨s, hs, rfl⟩ := List.mem_map.mp hq
          exact hm (plc_inj e ▸ List.mem_map_of_mem hs)
      rw [e] at O5
      exact O5
  rintro e h5 ⟨o, rfl, O5⟩
  have Fs := Mx.firsts_sub c S
  generalize Mx.firsts c S = H at O5 Fs
  obtain ⟨HS, Hnd, Hall, Hl⟩ := Fs
  have H0 : c 0 ∈ H.map c := Hall 0 S0
  have Hne : H ≠ [] := fun e => by rw [e] at H0; cases H0
  walk_at "n"
  refine ⟨l4, headsD c H, O5.f1, put_own O5 0 rfl fun h6 O6 => ?_⟩
  have f6 := O6.f3
  walk_at "w"
  refine ⟨fun p hp => ?_, by simpa [headsD] using Hne, new_own (Own.start O6.b) fun l7 h7 O7 => ?_⟩
  · obtain ⟨q, _, rfl⟩ := List.mem_map.mp hp
    rfl
  unfold headsD
  rw [List.map_map]
  refine dc_ownL (α := Nat) (f := fun p => .tup [.int (c p : Nat), .int (p : Nat)]) (xs := H) O7 (fun d acc L => ∃ q : List (Nat × Nat), q.map (·.1) = d ∧ acc = q.map (fun x => (plc (c x.1), .loc x.2)) ∧ ∀ x ∈ q, (x.2, .lst (nums ((Mx.goals mv x.1).map c))) ∈ L) ⟨[], rfl, rfl, by simp⟩ (by omega) (fun _ _ _ _ => trivial) ?_ ?_ ?_
  · rintro d acc L ⟨q, rfl, rfl, _⟩
    simp
  · rintro d p r acc L h8 hd0 ⟨q, hq, rfl, hL⟩ O8
    have hd := hd0.symm
    clear hd0
    have hpH : p ∈ H := by rw [← hd]; simp
    have hp : p ∈ S := HS p hpH
    have f8 := (O6.join O8)
    have gl : (Mx.goals mv p).length = k := w.kl p (Slt p hp)
    unfold encM
    walk_at "w"
    refine ⟨_, atI_rows (Slt p hp), ?_⟩
    unfold encR
    walk_at "w"
    refine new_own (Own.start O8.b) fun l9 h9 O9 => ?_
    have g8 : ∀ h9 X, Own h8 h9 X → h9[l3]? = some (.dic false (marksD S c)) := fun h9 X O9 => (O6.join (O8.join O9)).get (by simp)
    refine lc_marks (c := c) O9 (by omega) (fun _ _ O' => trivial) ?_ ?_
    · intro q hq acc h10 O10
      have f10 := g8 _ _ O10
      walk_at "w"
      exact ⟨Ext.refl _, marksD_kind, _, marksD_look (Sc p q hp hq), rfl, Ext.refl _⟩
    · intro h10 O10
      walk_at "w"
      have O11 := O8.join O10
      refine ⟨_, (O11.perm (List.Perm.swap _ _ _)), q ++ [(p, l9)], by simp [hq], ?_, ?_⟩
      · rw [dPut_new]
        · simp
        · intro z hz e
          obtain ⟨s, hs, rfl⟩ := List.mem_map.mp hz
          have hsd : s.1 ∈ d := by rw [← hq]; exact List.mem_map_of_mem hs
          have := plc_inj e
          have e2 := Mx.nodup_inj Hnd (by rw [← hd]; simp [hsd]) hpH this
          rw [← hd] at Hnd
          have nd2 : (d ++ p :: r).Nodup := Mx.nodup_of_map Hnd
          exact (List.nodup_append.mp nd2).2.2 s.1 hsd p (by simp) e2
      · intro x hx
        rcases List.mem_append.mp hx with hx | hx
        · exact .tail _ (hL x hx)
        · simp at hx; subst hx; exact .head _
  rintro acc L h8 O8 ⟨q, hq, rfl, hL⟩
  have O8' : Own h h8 ([(l4, Cell.dic true (headsD c H)), (l3, Cell.dic false (marksD S c)), (l2, Cell.lst (nums S))] ++ ((l7, Cell.dic false (q.map fun x => (plc (c x.1), PV.loc x.2))) :: L)) := (O6.join O8).perm List.perm_append_comm
  refine ⟨O8'.f1, put_own O8' 0 rfl fun h9 O9 => ?_⟩
  have f9 := O9.f4
  have O9' : Own h h9 ((l4, .dic false (headsD c H)) :: (l3, .dic false (marksD S c)) :: (l2, .lst (nums S)) :: (l7, .dic false (q.map fun x => (plc (c x.1), .loc x.2))) :: L) := O9
  clear O9
  let look : Nat → List Nat := fun x => (Mx.goals mv (Mx.headOf c H x)).map c
  have qi : ∀ a b, a ∈ q → b ∈ q → plc (c a.1) = plc (c b.1) → a = b := fun a b ha hb e => by
    have nq : (q.map (·.1)).Nodup := by rw [hq]; exact Mx.nodup_of_map Hnd
    refine Mx.nodup_inj nq ha hb (Mx.nodup_inj Hnd ?_ ?_ (plc_inj e))
    · rw [← hq]; exact List.mem_map_of_mem ha
    · rw [← hq]; exact List.mem_map_of_mem hb
  have X : LookV h9 (.loc l7) (fun x => x ∈ H.map c) look := by
    refine ⟨fun x hx => ?_⟩
    have hh := Mx.headOf_ok hx
    have : Mx.headOf c H x ∈ q.map (·.1) := by rw [hq]; exact hh.1
    obtain ⟨y, hy, ey⟩ := List.mem_map.mp this
    have hcell := hL y hy
    have hm := O9'.get (.tail _ (.tail _ (.tail _ (.tail _ hcell))))
    have hg := O9'.ge (.tail _ (.tail _ (.tail _ (.tail _ hcell))))
    refine ⟨.loc y.2, ⟨by omega, by rw [hm, ey]⟩, fun h' Q E q' => ?_⟩
    have ex : plc x = plc (c y.1) := by rw [ey, hh.2]
    refine ix_dic (E.get f9.2.2.2 (Nat.le_trans O9'.base (O9'.ge (c := .dic false (q.map fun x => (plc (c x.1), .loc x.2))) (by simp)))) (dk_plc (p := x)) (kind_map fun _ _ => rfl) ?_ q'
    rw [ex]
    exact dLook_map (kf := fun x : Nat × Nat => plc (c x.1)) (vf := fun x => .loc x.2) qi hy
  have Pc : ∀ x g, x ∈ H.map c → g ∈ look x → g ∈ H.map c := fun x g hx hg => by
    have hh := Mx.headOf_ok hx
    obtain ⟨y, hy, rfl⟩ := List.mem_map.mp hg
    exact Hall y (Sc _ y (HS _ hh.1) hy)
  have Pl' : ∀ x, x ∈ H.map c → x < mv.length := fun x hx => by
    obtain ⟨p, hp, rfl⟩ := List.mem_map.mp hx
    exact cl p (HS p hp)
  walk_at "n"
  refine ⟨marksD_kind (p := 0), _, marksD_look S0, ?_⟩
  refine W_found_places.mono (sp_found_places O9'.b X H0 Pc Pl' hm) ?_ fun _ _ z => z
  rintro v h10 ⟨l10, rfl, O10⟩
  have oin : ∀ x ∈ Mx.bfs look (c 0) mv.length, x ∈ H.map c := Mx.bfs_ind (P := fun x => x ∈ H.map c) H0 Pc _
  have oall : ∀ x g, x ∈ Mx.bfs look (c 0) mv.length → g ∈ look x → g ∈ Mx.bfs look (c 0) mv.length := fun x g hx hg => by
    obtain ⟨j, hj⟩ := List.getElem?_of_mem hx
    have hl : (Mx.bfs look (c 0) mv.length).length ≤ mv.length := Mx.nodup_len (Mx.bfs_nodup _) fun y hy => Pl' y (oin y hy)
    exact Mx.bfs_closed (Nat.lt_of_lt_of_le (List.getElem?_eq_some_iff.mp hj).1 hl) hj g hg
  have ol : (Mx.bfs look (c 0) mv.length).length ≤ mv.length := Mx.nodup_len (Mx.bfs_nodup _) fun y hy => Pl' y (oin y hy)
  have hlk : ∀ p, p ∈ Mx.bfs (Mx.goals mv) 0 mv.length → look (c p) = (Mx.goals mv p).map c := fun p hp => by
    have hp' := hp
    rw [eS] at hp'
    have hh := Mx.headOf_ok (Hall p hp')
    exact Lb.look (by rw [eS]; exact HS _ hh.1) hp hh.2
  have QL := Mx.quot_least Lb (lookL := look) (order := Mx.bfs look (c 0) mv.length) (reps := (Mx.bfs look (c 0) mv.length).map (Mx.headOf c H)) (N := mv.length) hlk rfl ol (by
    rw [List.map_map]
    conv => rhs; rw [← List.map_id (Mx.bfs look (c 0) mv.length)]
    exact List.map_congr_left fun x hx => (Mx.headOf_ok (oin x hx)).2) (fun p hp => by
    obtain ⟨x, hx, rfl⟩ := List.mem_map.mp hp
    rw [eS]
    exact HS _ (Mx.headOf_ok (oin x hx)).1)
  generalize Mx.bfs look (c 0) mv.length = order at O10 oin oall ol QL
  have O10' := O9'.join O10
  have f10 := O10.f1
  walk_at "n"
  refine new_own (Own.start O10'.b) fun l11 h11 O11 => ?_
  refine lc_map O11 (f := fun n : Nat => .int n) (xs := order) (fun x => encR ((look x).map fun g => order.idxOf g)) (by omega) (fun acc h' O' => (O10.join O').get (by simp)) ?_ ?_
  · intro x hx acc h12 O12
    have b12 := O12.b
    obtain ⟨y, sy, hy⟩ := X.look x (oin x hx)
    have E12 : Ext h9 h12 := (O10.join O12).ext
    walk_at "v"
    refine ⟨Ext.refl _, hy h12 _ E12 ?_⟩
    refine itr_of (sy.ext E12) fun ok hok => new_own (Own.start b12) fun l13 h13 O13 => ?_
    refine lc_map O13 (f := fun n : Nat => .int n) (xs := look x) (fun g => .int (order.idxOf g : Nat)) (by have := w.kl _ (Slt _ (HS _ (Mx.headOf_ok (oin x hx)).1)); simp [look]; omega) (fun acc h' O' => hok h' O'.ext) ?_ ?_
    · intro g hg acc h14 O14
      have f14 := (O10.join (O12.join O14)).get (l := l10) (c := .lst (nums order)) (by simp)
      walk_at "w"
      refine ⟨Ext.refl _, index_nums f14 (oall x g hx hg) ⟨rfl, Ext.refl _⟩⟩
    · intro h14 O14
      have f14 := O14.f1
      walk_at "w"
      refine ⟨?_, O14.ext⟩
      rw [nums_map]; rfl
  intro h12 O12
  have O12' := O10'.join O12
  have f12 := O10.join O12
  have f12' := f12.f2
  walk_at "n"
  refine new_own (Own.start f12.b) fun l13 h13 O13 => ?_
  refine lc_map O13 (f := fun n : Nat => .int n) (xs := order) (fun x => .int (wd.getD (Mx.headOf c H x) 0 : Nat)) (by omega) (fun acc h' O' => (f12.join O').get (by simp)) ?_ ?_
  · intro x hx acc h14 O14
    have f14 := (O12'.join O14).get (l := l4) (c := .dic false (headsD c H)) (by simp)
    have hh := Mx.headOf_ok (oin x hx)
    have wl := w.wl
    have hlt := Slt _ (HS _ hh.1)
    unfold encR
    walk_at "w"
    refine ⟨Ext.refl _, headsD_kind, _, headsD_look Hnd (oin x hx), ?_⟩
    walk_at "w"
    exact ⟨_, atI_nums (by omega), rfl, Ext.refl _⟩
  intro h14 O14
  have O15 := O12'.join O14
  walk_at "w"
  refine ⟨by omega, _, _, QL, ?_, ?_, ?_⟩
  · simp; exact ol
  · intro y hy
    obtain ⟨p, hp, rfl⟩ := List.mem_map.mp hy
    obtain ⟨x, hx, rfl⟩ := List.mem_map.mp hp
    have hh := Mx.headOf_ok (oin x hx)
    have hlt := Slt _ (HS _ hh.1)
    rw [List.getD_eq_getElem?_getD, List.getElem?_eq_getElem (by rw [w.wl]; exact hlt)]
    exact List.getElem_mem _
  · have e1 : order.map (fun x => PV.int (wd.getD (Mx.headOf c H x) 0 : Nat)) = nums ((order.map (Mx.headOf c H)).map fun p => wd.getD p 0) := by rw [nums_map, List.map_map]; rfl
    have e2 : order.map (fun x => encR ((look x).map fun g => order.idxOf g)) = ((order.map (Mx.headOf c H)).map fun p => (Mx.goals mv p).map fun g => order.idxOf (c g)).map encR := by
      rw [List.map_map, List.map_map]
      refine List.map_congr_left fun x _ => ?_
      show encR _ = encR _
      congr 1
      show ((Mx.goals mv (Mx.headOf c H x)).map c).map _ = _
      rw [List.map_map]; rfl
    rw [e1, e2] at O15
    exact O15.sub (.cons₂ _ (.cons₂ _ (List.nil_sublist _)))
/-- least_watch -/
theorem sp_least_watch {l k : Nat} {mv : List (List Nat)} {wd : List Nat} (b : 3 ≤ h.length) (iw : IsW h l mv wd) (w : Fit k mv wd) :
    W_least_watch.run [.loc l] h (fun v h' => ∃ l' tbl wds, v = .loc l' ∧ Mx.Least k tbl wds (Mx.says mv wd 0) ∧ Fit k tbl wds ∧ Own h h' [(l', watchC tbl wds)]) NX := by
  have fw := iw.2
  unfold watchC at fw
  have m6 := w.m6
  have k4 := w.k4
  unfold W_least_watch
  walk_at "w"
  refine W_need_watch.mono (sp_need_watch iw) ?_ fun _ _ z => z
  rintro _ _ ⟨rfl, rfl⟩
  walk_at "n"
  refine W_Watch_moves.mono (sp_moves iw) ?_ fun _ _ z => z
  rintro _ _ ⟨rfl, rfl⟩
  walk_at "w"
  refine W_Watch_words.mono (sp_words iw) ?_ fun _ _ z => z
  rintro _ _ ⟨rfl, rfl⟩
  refine W_least_tables.mono (sp_least_tables w.wf (by omega) (by omega) b) ?_ fun _ _ z => z
  rintro v h1 ⟨lf, lw, tbl, wds, rfl, Ls, tl, wm, O1⟩
  have F : Fit k tbl wds := ⟨Ls.wf, by omega, w.k1, w.k4, fun x hx => w.w3 x (wm x hx)⟩
  have b3 : 3 ≤ lf ∧ 3 ≤ lw := by
    have h1 := O1.ge (l := lw) (c := .lst (nums wds)) (by simp)
    have h2 := O1.ge (l := lf) (c := .lst (tbl.map encR)) (by simp)
    omega
  walk_at "n"
  have sf : SeqV h1 (.loc lf) (tbl.map encR) := ⟨b3.1, O1.f2.2⟩
  have sw : SeqV h1 (.loc lw) (nums wds) := ⟨b3.2, O1.f2.1⟩
  refine make_watch O1.b sf nof_loc (fun y hy => ?_) (rows_tup tbl) F sw nof_loc fun l' h2 O2 => ?_
  · obtain ⟨r, _, rfl⟩ := List.mem_map.mp hy
    exact nof_tup
  · exact ⟨tbl, wds, Ls, F, (O1.join O2).sub (.cons₂ _ (List.nil_sublist _))⟩
theorem sorted_unique {r s t : List Int} (h1 : r.Perm t) (h2 : s.Perm t) (s1 : r.Pairwise (· ≤ ·)) (s2 : s.Pairwise (· ≤ ·)) : r = s :=
  (h1.trans h2.symm).eq_of_pairwise (fun a b _ _ h1 h2 => Int.le_antisymm h1 h2) s1 s2
/-- sorted numbers -/
def sortN (l : List Nat) : List Nat := l.mergeSort (fun a b => decide (a ≤ b))
theorem sortN_perm (l : List Nat) : (sortN l).Perm l := List.mergeSort_perm _ _
theorem sortN_sorted (l : List Nat) : (sortN l).Pairwise (· ≤ ·) := by
  have := List.pairwise_mergeSort (le := fun a b : Nat => decide (a ≤ b)) (fun a b c h1 h2 => by simp at *; omega) (fun a b => by simp; omega) l
  exact this.imp fun h => by simpa using h
theorem sort_nums {r : List Nat} {ns : List Int} (hp : ns.Perm (r.map fun n => ((n : Nat) : Int))) (hs : ns.Pairwise (· ≤ ·)) : ns = (sortN r).map fun n => ((n : Nat) : Int) := by
  refine sorted_unique hp ((sortN_perm r).map _) hs ?_
  rw [List.pairwise_map]
  exact (sortN_sorted r).imp fun h => by omega
theorem sp_places_reached {l k : Nat} {mv : List (List Nat)} {wd : List Nat} (b : 3 ≤ h.length) (iw : IsW h l mv wd) (w : Fit k mv wd) :
    W_places_reached.run [.loc l] h (fun v h' => v = encR (sortN (Mx.bfs (Mx.goals mv) 0 mv.length)) ∧ Ext h h') NX := by
  have fw := iw.2
  unfold watchC at fw
  have m6 := w.m6
  unfold W_places_reached
  walk_at "w"
  refine W_need_watch.mono (sp_need_watch iw) ?_ fun _ _ z => z
  rintro _ _ ⟨rfl, rfl⟩
  walk_at "n"
  refine W_Watch_moves.mono (sp_moves iw) ?_ fun _ _ z => z
  rintro _ _ ⟨rfl, rfl⟩
  refine W_found_places.mono (sp_found_places (a := 0) b look_tup w.wf.pos (fun p g hp hg => w.wf.lt p g hp hg) (fun p hp => hp) (by omega)) ?_ fun _ _ z => z
  rintro v h1 ⟨l2, rfl, O1⟩
  have f1 := O1.f1
  have e5 : nums (Mx.bfs (Mx.goals mv) 0 mv.length) = ((Mx.bfs (Mx.goals mv) 0 mv.length).map fun p => ((p : Nat) : Int)).map PV.int := by unfold nums; rw [List.map_map]; rfl
  rw [e5] at f1
  have bl := Mx.bfs_len w.wf.pos (fun p g hp hg => w.wf.lt p g hp hg) mv.length
  walk_at "w"
  refine ⟨_, rfl, by simp; omega, fun ns' hp hs => new_own O1 fun l3 h3 O3 => ?_⟩
  have f3 := O3.f1
  walk_at "w"
  refine ⟨?_, O3.ext⟩
  rw [sort_nums hp hs]
  unfold encR nums
  rw [List.map_map]; rfl
end
end K92
end
section
set_option Elab.async false
set_option linter.all false
set_option maxRecDepth 100000
set_option maxHeartbeats 4000000
namespace K92
open PySem L2 PyA
local macro_rules | `(tactic| walk_at "w") => `(tactic| try simp only [w_var, w_c, w_nil, w_cons, w_star, w_tup, w_lst, w_o2, w_on, w_tb, w_chain, w_tand, w_tor, w_tnot, w_tys, w_and, w_or, w_not, w_ife, w_neg, w_call, w_callK, w_callP, w_callL, w_lam0, w_mt, w_fld, w_xf, w_prop, w_make, w_dic0, w_disp, w_pnil, w_pcons, w_lc, w_dc, w_lock, w_slock, w_lkAt, w_lkN, w_lkR, w_lkB, w_lkC, w_lkX, w_rg1, w_seq, w_skip, w_brk, w_cnt, w_exp, w_ret, w_retN, w_asg, w_if, w_par, w_par3, w_for, w_raise, w_try, w_sfld, w_nm, w_gnil, w_gcons, w_gtp, w_gix, w_o3, w_itS, w_itR1, w_itR2, w_itEn, w_itK, w_itKV, w_seqL, w_seqT, w_seqF, w_seqTF, w_enT, w_enF, w_enL, w_sub, w_mul, w_mod, w_fdiv, w_pow, w_lt, w_le, w_gt, w_ge, w_isN, w_notN, w_addI, w_addS, w_addT, w_ixT, w_ixF, w_ixL, w_lenT, w_lenF, w_lenTF, w_lenS, w_lenL, w_f1, w_i2, w_LI, w_LB, w_sort, w_listT, w_listF, w_listL, w_tupT, w_tupF, w_tupL, w_tupleF, w_lenSet, w_minD, w_tupIx, w_append, w_popAt, w_get, w_setd, w_recvL, w_itT, w_itF, w_itTF, w_itL, w_itI, w_itN, w_itB, w_itStr, w_F, w_L, w_lkm, w_lkw, w_ip1, w_ip2, w_fIntI, w_fIntB, w_fAbs, w_dkI, w_dkS, w_dkT, w_kind0, w_kindC, w_eqI, w_neI, Sum.isLeft_inl, Sum.isLeft_inr, decide_eq_true_eq, exists_false, exists_prop_of_true, w_itpL, w_itpF, w_itpT, w_itpTF, w_isNI, w_isNN, w_isNB, w_isNS, w_isNT, w_isNTF, w_isNF, w_isNL, w_isNX, wipeE, perm, List.map_cons, List.map_nil, List.getD_cons_zero, List.getD_cons_succ, List.length_cons, List.length_nil, List.replicate, List.cons_append, List.nil_append, List.append_nil, List.getElem?_cons_zero, List.getElem?_cons_succ, List.getElem?_nil, List.set_cons_zero, List.set_cons_succ, Option.some.injEq, Sum.inl.injEq, Sum.inr.injEq, PV.int.injEq, PV.bl.injEq, PV.loc.injEq, PV.tup.injEq, PV.str.injEq, PV.fls.injEq, PV.ftp.injEq, Cell.lst.injEq, Cell.dic.injEq, Cell.ins.injEq, Cell.dik.injEq, List.cons.injEq, exists_eq_left, exists_eq_left', exists_and_left, exists_and_right, exists_eq_right, exists_eq_right', exists_const, exists_eq, exists_eq', reduceCtorEq, false_and, and_false, true_and, and_true, or_false, false_or, true_or, or_true, and_self, if_true, if_false, Bool.false_eq_true, Bool.not_true, Bool.not_false, Nat.zero_add, Nat.reduceAdd, Nat.reduceSub, Nat.reduceLeDiff, Nat.reduceEqDiff, and_assoc, *])
local macro_rules | `(tactic| walk_at "n") => `(tactic| ((first | refine w_go ?_ | (dsimp only; refine w_go ?_) | (walk_at "w"; refine w_go ?_)); walk_at "w"))
local macro_rules | `(tactic| walk_at "v") => `(tactic| try simp only [w_var, w_c, w_nil, w_cons, w_star, w_tup, w_lst, w_o2, w_on, w_tb, w_chain, w_tand, w_tor, w_tnot, w_tys, w_and, w_or, w_not, w_ife, w_neg, w_call, w_callK, w_callP, w_callL, w_lam0, w_mt, w_fld, w_xf, w_prop, w_make, w_dic0, w_disp, w_pnil, w_pcons, w_lc, w_dc, w_lock, w_slock, w_lkAt, w_lkN, w_lkR, w_lkB, w_lkC, w_lkX, w_rg1, w_seq, w_skip, w_brk, w_cnt, w_exp, w_ret, w_retN, w_asg, w_if, w_par, w_par3, w_for, w_raise, w_try, w_sfld, w_nm, w_gnil, w_gcons, w_gtp, w_gix, w_o3, w_itS, w_itR1, w_itR2, w_itEn, w_itK, w_itKV, w_seqL, w_seqT, w_seqF, w_seqTF, w_enT, w_enF, w_enL, w_sub, w_mul, w_mod, w_fdiv, w_pow, w_lt, w_le, w_gt, w_ge, w_isN, w_notN, w_addI, w_addS, w_addT, w_ixT, w_ixF, w_lenT, w_lenF, w_lenTF, w_lenS, w_lenL, w_f1, w_i2, w_LI, w_LB, w_sort, w_listT, w_listF, w_listL, w_tupT, w_tupF, w_tupL, w_tupleF, w_lenSet, w_minD, w_tupIx, w_append, w_popAt, w_get, w_setd, w_recvL, w_itT, w_itF, w_itTF, w_itL, w_itI, w_itN, w_itB, w_itStr, w_F, w_L, w_lkm, w_lkw, w_ip1, w_ip2, w_fIntI, w_fIntB, w_fAbs, w_dkI, w_dkS, w_dkT, w_kind0, w_kindC, w_eqI, w_neI, Sum.isLeft_inl, Sum.isLeft_inr, decide_eq_true_eq, exists_false, exists_prop_of_true, w_itpL, w_itpF, w_itpT, w_itpTF, w_isNI, w_isNN, w_isNB, w_isNS, w_isNT, w_isNTF, w_isNF, w_isNL, w_isNX, wipeE, perm, List.map_cons, List.map_nil, List.getD_cons_zero, List.getD_cons_succ, List.length_cons, List.length_nil, List.replicate, List.cons_append, List.nil_append, List.append_nil, List.getElem?_cons_zero, List.getElem?_cons_succ, List.getElem?_nil, List.set_cons_zero, List.set_cons_succ, Option.some.injEq, Sum.inl.injEq, Sum.inr.injEq, PV.int.injEq, PV.bl.injEq, PV.loc.injEq, PV.tup.injEq, PV.str.injEq, PV.fls.injEq, PV.ftp.injEq, Cell.lst.injEq, Cell.dic.injEq, Cell.ins.injEq, Cell.dik.injEq, List.cons.injEq, exists_eq_left, exists_eq_left', exists_and_left, exists_and_right, exists_eq_right, exists_eq_right', exists_const, exists_eq, exists_eq', reduceCtorEq, false_and, and_false, true_and, and_true, or_false, false_or, true_or, or_true, and_self, if_true, if_false, Bool.false_eq_true, Bool.not_true, Bool.not_false, Nat.zero_add, Nat.reduceAdd, Nat.reduceSub, Nat.reduceLeDiff, Nat.reduceEqDiff, and_assoc, *])
section
variable {h : Hh}
/-- rows of places, as a dict -/
def rowsD (q : List Mx.RP) : List (DK × PV) := q.map fun x => (plc x.2, encR x.1)
theorem rowsD_kind {q : List Mx.RP} {x : Nat} : PyA.Kind (rowsD q) (plc x) := kind_map fun _ _ => rfl
theorem rowsD_look {q : List Mx.RP} (nd : (q.map (·.2)).Nodup) {x : Mx.RP} (hx : x ∈ q) : dLook (rowsD q) (plc x.2) = some (encR x.1) :=
  dLook_map (kf := fun x : Mx.RP => plc x.2) (vf := fun x => encR x.1) (fun a b ha hb e => Mx.nodup_inj nd ha hb (plc_inj e)) hx
theorem rowsD_none {q : List Mx.RP} {g : Nat} (hg : g ∉ q.map (·.2)) : dLook (rowsD q) (plc g) = none := dLook_none fun p hp e => by
  obtain ⟨x, hx, rfl⟩ := List.mem_map.mp hp
  exact hg (plc_inj e ▸ List.mem_map_of_mem hx)
theorem rowsD_put {q : List Mx.RP} {r : List Nat} {g : Nat} (hg : g ∉ q.map (·.2)) : dPut (rowsD q) (plc g) (encR r) = rowsD (q ++ [(r, g)]) := by
  rw [dPut_new]
  · unfold rowsD; rw [List.map_append]; rfl
  · intro p hp e
    obtain ⟨x, hx, rfl⟩ := List.mem_map.mp hp
    exact hg (plc_inj e ▸ List.mem_map_of_mem hx)
theorem sp_shortest_rows {l k : Nat} {mv : List (List Nat)} {wd : List Nat} (b : 3 ≤ h.length) (iw : IsW h l mv wd) (w : Fit k mv wd) :
    W_shortest_rows.run [.loc l] h (fun v h' => ∃ l', v = .loc l' ∧ Own h h' [(l', .dic false (rowsD (Mx.qAll mv)))]) NX := by
  have big := sl_big
  have m6 := w.m6
  have al : ∀ n, (Mx.qN (Mx.goals mv) n).length ≤ mv.length := Mx.qlen w.wf
  have nd : ∀ n, ((Mx.qN (Mx.goals mv) n).map (·.2)).Nodup := fun n => by rw [Mx.qN_places]; exact Mx.bfs_nodup n
  unfold W_shortest_rows
  walk_at "w"
  refine new_own (Own.start b) fun l1 h1 O1 => ?_
  have f1 := O1.f1
  walk_at "w"
  refine ⟨by omega, rowsD [([], 0)], rfl, put_own O1 0 rfl fun h2 O2 => ?_⟩
  refine ⟨by omega, new_own O2 fun l3 h3 O3 => ?_⟩
  walk_at "n"
  refine while_inv (n := mv.length) (fun n e h' => ∃ (s : Nat) (o1 o2 : Option PV), n = mv.length - s ∧ s ≤ (Mx.qN (Mx.goals mv) s).length ∧ e = [some (.loc l), some (.loc l1), some (.loc l3), some (.int s), o1, o2] ∧
    Own h h' [(l3, .lst (nums ((Mx.qN (Mx.goals mv) s).map fun x : Mx.RP => x.2))), (l1, .dic false (rowsD (Mx.qN (Mx.goals mv) s)))]) ⟨0, none, none, rfl, Nat.zero_le _, rfl, O3⟩ ?_
  rintro n e h' ⟨s, o1, o2, rfl, hs, rfl, O⟩
  have f := O.f2
  walk_at "w"
  rw [nums_len, List.length_map]
  by_cases hlt : s < (Mx.qN (Mx.goals mv) s).length
  · have hi : (s : Int) < ((Mx.qN (Mx.goals mv) s).length : Nat) := by omega
    simp only [hi, if_true]
    obtain ⟨x, hx⟩ : ∃ x, (Mx.qN (Mx.goals mv) s)[s]? = some x := ⟨_, List.getElem?_eq_getElem hlt⟩
    have hxm := List.mem_of_getElem? hx
    have hp : x.2 < mv.length := by
      have h2 : x.2 ∈ Mx.bfs (Mx.goals mv) 0 s := by rw [← Mx.qN_places]; exact List.mem_map_of_mem hxm
      exact Mx.bfs_ind (P := fun x => x < mv.length) w.wf.pos (fun p g hp hg => w.wf.lt p g hp hg) s _ h2
    have iw' := iw.ext O.ext
    have fw := iw'.2
    unfold watchC at fw
    walk_at "w"
    refine W_Watch_moves.mono (sp_moves iw') ?_ fun _ _ z => z
    rintro _ _ ⟨rfl, rfl⟩
    walk_at "w"
    have ep : ((Mx.qN (Mx.goals mv) s).map (·.2)).getD s 0 = x.2 := by rw [List.getD_eq_getElem?_getD, List.getElem?_map, hx]; rfl
    refine ⟨_, atI_nums (by simpa using hlt), ?_⟩
    rw [ep]
    unfold encM
    walk_at "w"
    refine ⟨_, atI_rows hp, ?_⟩
    unfold encR
    walk_at "w"
    unfold nums
    have gl := w.wf.kl x.2 hp
    have k4 := w.k4
    refine for_enum (α := Nat) (f := fun n => .int (n : Nat)) (xs := Mx.goals mv x.2) (fun d e h'' => ∃ o1 o2 : Option PV, e = [some (.loc l), some (.loc l1), some (.loc l3), some (.int s), o1, o2] ∧
      Own h h'' [(l3, .lst (nums ((Mx.addR (Mx.qN (Mx.goals mv) s) x.1 0 d).map (·.2)))), (l1, .dic false (rowsD (Mx.addR (Mx.qN (Mx.goals mv) s) x.1 0 d)))]) ⟨o1, o2, rfl, O⟩ (fun _ _ _ _ => trivial) ?_ ?_
    · rintro d g r hd0 e h'' ⟨o1, o2, rfl, O'⟩
      have hd := hd0.symm
      clear hd0
      have f' := O'.f2
      have nd' : ((Mx.addR (Mx.qN (Mx.goals mv) s) x.1 0 d).map (·.2)).Nodup := by rw [Mx.addR_places]; exact Mx.addNew_nodup (nd s)
      have pre := Mx.addR_pre x.1 d (Mx.qN (Mx.goals mv) s) 0
      have atx : (Mx.addR (Mx.qN (Mx.goals mv) s) x.1 0 d)[s]? = some x := by
        obtain ⟨t, e⟩ := pre
        rw [e, List.getElem?_append_left hlt]; exact hx
      have len : (Mx.addR (Mx.qN (Mx.goals mv) s) x.1 0 d).length ≤ mv.length := by
        have h1 : (Mx.addR (Mx.qN (Mx.goals mv) s) x.1 0 d).length = ((Mx.addR (Mx.qN (Mx.goals mv) s) x.1 0 d).map (·.2)).length := by simp
        rw [h1]
        refine Mx.nodup_len nd' fun z hz => ?_
        rw [Mx.addR_places, Mx.mem_addNew, Mx.qN_places] at hz
        rcases hz with hz | hz
        · exact Mx.bfs_ind (P := fun x => x < mv.length) w.wf.pos (fun p g hp hg => w.wf.lt p g hp hg) s _ hz
        · exact w.wf.lt x.2 z hp (by rw [← hd]; simp [hz])
      have rl : x.1.length ≤ 900 := by
        have := Mx.qN_rowlen _ _ x hxm
        have := al s
        omega
      rw [Mx.addR_snoc]
      generalize Mx.addR (Mx.qN (Mx.goals mv) s) x.1 0 d = q at f' O' nd' atx len
      have xm := List.mem_of_getElem? atx
      have sl : s < q.length := (List.getElem?_eq_some_iff.mp atx).1
      walk_at "w"
      refine notin_dic f'.2 (dk_plc (p := g)) rowsD_kind (b := decide (g ∉ q.map (·.2))) ?_ ?_
      · by_cases hg : g ∈ q.map (·.2)
        · obtain ⟨y, hy, rfl⟩ := List.mem_map.mp hg
          rw [rowsD_look nd' hy]; simp [hg]
        · rw [rowsD_none hg]; simp [hg]
      walk_at "w"
      split
      · rename_i hg
        have hg : g ∉ q.map (·.2) := by simpa using hg
        have eq : (q.map (·.2)).getD s 0 = x.2 := by rw [List.getD_eq_getElem?_getD, List.getElem?_map, atx]; rfl
        refine ⟨_, atI_nums (by simpa using sl), ?_⟩
        rw [eq]
        walk_at "w"
        refine ⟨rowsD_kind, _, rowsD_look nd' xm, ?_⟩
        unfold encR
        walk_at "w"
        refine ⟨by simp [nums_len]; omega, rowsD_kind, by simp [rowsD]; omega, put_own O' 1 rfl fun h3 O3 => ?_⟩
        have e1 : nums x.1 ++ [PV.int (d.length : Nat)] = nums (x.1 ++ [d.length]) := (nums_snoc _ _).symm
        rw [e1, show (PV.tup (nums (x.1 ++ [d.length]))) = encR (x.1 ++ [d.length]) from rfl, rowsD_put hg] at O3
        have f3 := O3.f2
        walk_at "n"
        refine ⟨by simp [nums_len]; omega, put_own O3 0 rfl fun h4 O4 => ?_⟩
        rw [← nums_snoc] at O4
        simp only [List.map_append, List.map_cons, List.map_nil, Nat.zero_add]
        exact O4
      · rename_i hg
        have hg : g ∈ q.map (·.2) := by simpa using hg
        rw [if_pos hg]
        exact O'
    · rintro e h'' ⟨o1, o2, rfl, O'⟩
      have e1 : Mx.addR (Mx.qN (Mx.goals mv) s) x.1 0 (Mx.goals mv x.2) = Mx.qN (Mx.goals mv) (s + 1) := by rw [Mx.qN, hx]
      rw [e1] at O'
      walk_at "n"
      refine ⟨mv.length - (s + 1), by have := al s; omega, s + 1, rfl, ?_, by simp, O'⟩
      obtain ⟨t, e⟩ := Mx.qN_pre1 (Mx.goals mv) s
      rw [e]; simp; omega
  · have hi : ¬ (s : Int) < ((Mx.qN (Mx.goals mv) s).length : Nat) := by omega
    simp only [hi, if_false]
    walk_at "n"
    rw [Mx.q_end w.wf (n := s) (by omega)] at O
    exact O.sub (.cons _ (.cons₂ _ .slnil))
def optR : Option (List Nat) → PV
  | some r => encR r
  | none => .non
/-- (length, row) as data -/
def lr (r : List Nat) : PV := .tup [.int (r.length : Nat), encR r]
def lrD (r : List Nat) : Int × PySem.W.Tup Int := ((r.length : Int), ⟨r.map fun n => ((n : Nat) : Int)⟩)
theorem lr_plain (r : List Nat) : PyA.plain (lr r) = true ∧ pdep (lr r) ≤ 3 := by
  have := plain_nums r
  simp only [lr, encR, PyA.plain, plainAll, pdep, pdeps, this.1]
  exact ⟨rfl, by omega⟩
theorem lr_toD (r : List Nat) : toD (lr r) = PySem.W.Datum.toD (lrD r) := by
  have : toDs (nums r) = (r.map fun n => ((n : Nat) : Int)).map PyData.int := by
    rw [toDs_map, List.map_map]; unfold nums; rw [List.map_map]; rfl
  simp only [lr, encR, toD, toDs, this]
  rfl
theorem lexlt_of {r s : List Nat} (hl : r.length = s.length) (h : PySem.W.listLt (r.map fun n => ((n : Nat) : Int)) (s.map fun n => ((n : Nat) : Int)) = true) : Mx.LexLt r s := by
  induction r generalizing s with
  | nil => cases s with
    | nil => simp [PySem.W.listLt] at h
    | cons => simp at hl
  | cons x r ih =>
    cases s with
    | nil => simp at hl
    | cons y s =>
      simp only [List.map_cons, PySem.W.listLt] at h
      by_cases e : ((x : Nat) : Int) = (y : Nat)
      · rw [if_pos e] at h
        have : x = y := by omega
        subst this
        exact .tail (ih (by simpa using hl) h)
      · rw [if_neg e] at h
        have : ((x : Nat) : Int) < (y : Nat) := of_decide_eq_true h
        exact .head (by omega)
/-- a row that is not less -/
theorem lr_not {B : Nat} {r s : List Nat} (hB : 0 < B) (hr : ∀ d ∈ r, d < B) (hs : ∀ d ∈ s, d < B) (h : Mx.code B r ≤ Mx.code B s) : PySem.W.DatumOrd.lt (lrD s) (lrD r) = false := by
  cases hc : PySem.W.DatumOrd.lt (lrD s) (lrD r) with
  | false => rfl
  | true =>
    have hc : (if ((s.length : Nat) : Int) = (r.length : Nat) then PySem.W.listLt (s.map fun n => ((n : Nat) : Int)) (r.map fun n => ((n : Nat) : Int)) else decide (((s.length : Nat) : Int) < (r.length : Nat))) = true := hc
    by_cases e : ((s.length : Nat) : Int) = (r.length : Nat)
    · rw [if_pos e] at hc
      have hl : s.length = r.length := by omega
      have := Mx.code_lex (lexlt_of hl hc) hl hs
      omega
    · rw [if_neg e] at hc
      have hlt : ((s.length : Nat) : Int) < (r.length : Nat) := of_decide_eq_true hc
      have := Mx.code_len hB hs hr (by omega)
      omega
theorem min_first {B : Nat} {r : List Nat} {rs : List (List Nat)} (hB : 0 < B) (hr : ∀ d ∈ r, d < B) (hs : ∀ s ∈ rs, (∀ d ∈ s, d < B) ∧ Mx.code B r ≤ Mx.code B s) : PySem.W.minD (toD (lr r)) (rs.map fun s => toD (lr s)) = toD (lr r) := by
  unfold PySem.W.minD
  induction rs with
  | nil => rfl
  | cons s rs ih =>
    rw [List.map_cons, List.foldl_cons]
    have h1 := hs s (by simp)
    have : PySem.W.dataLt (toD (lr s)) (toD (lr r)) = false := by
      rw [lr_toD, lr_toD, PySem.W.DatumOrd.lt_eq]
      exact lr_not hB hr h1.1 h1.2
    rw [this]
    exact ih fun z hz => hs z (by simp [hz])
theorem lr_inj {r s : List Nat} (h : toD (lr r) = toD (lr s)) : r = s := by
  have h1 := (eqv_plain (lr r) (lr s) (lr_plain r).1 (lr_plain s).1).mp (by rw [h]; exact (eqv_plain (lr s) (lr s) (lr_plain s).1 (lr_plain s).1).mpr rfl)
  simp only [lr, bare, bares, bare_row, PV.tup.injEq, List.cons.injEq] at h1
  exact encR_inj h1.2.1
theorem sp_word_rows {l k : Nat} {mv : List (List Nat)} {wd : List Nat} (b : 3 ≤ h.length) (iw : IsW h l mv wd) (w : Fit k mv wd) :
    W_word_rows.run [.loc l] h (fun v h' => v = .tup ((List.range 4).map fun v => optR (Mx.firstRow mv wd v)) ∧ Ext h h') NX := by
  have big := sl_big
  have m6 := w.m6
  have ql := Mx.qlen w.wf mv.length
  have qnd : ((Mx.qAll mv).map fun x : Mx.RP => x.2).Nodup := by
    have := Mx.q_places w.wf
    rw [show ((Mx.qAll mv).map fun x : Mx.RP => x.2) = (Mx.qAll mv).map (·.2) from rfl, this]
    exact Mx.bfs_nodup _
  have qlt : ∀ x ∈ Mx.qAll mv, x.2 < mv.length := fun x hx => by
    have h2 : x.2 ∈ Mx.bfs (Mx.goals mv) 0 mv.length := by rw [← Mx.q_places w.wf]; exact List.mem_map_of_mem hx
    exact Mx.bfs_ind (P := fun x => x < mv.length) w.wf.pos (fun p g hp hg => w.wf.lt p g hp hg) _ _ h2
  have wl := w.wf.wl
  unfold W_word_rows
  walk_at "w"
  refine W_need_watch.mono (sp_need_watch iw) ?_ fun _ _ z => z
  rintro _ _ ⟨rfl, rfl⟩
  walk_at "n"
  refine W_shortest_rows.mono (sp_shortest_rows b iw w) ?_ fun _ _ z => z
  rintro v h1 ⟨l1, rfl, O1⟩
  walk_at "w"
  refine ⟨by omega, new_own O1 fun l2 h2 O2 => ⟨by omega, ?_⟩⟩
  walk_at "n"
  refine ⟨by decide, by decide, ?_⟩
  show loopF _ _ (rngI 0 4).ok _ (rngI 0 4).items _ _
  refine for_rng (fun i e h' => ∃ o1 o2 o3 : Option PV, e = [some (.loc l), some (.loc l1), some (.loc l2), o1, o2, o3] ∧
    Own h h' [(l2, .lst ((List.range i).map fun v => optR (Mx.firstRow mv wd v))), (l1, .dic false (rowsD (Mx.qAll mv)))]) ⟨none, none, none, rfl, O2⟩ ?_ ?_
  · rintro v hv e h3 ⟨o1, o2, o3, rfl, O3⟩
    have f3 := O3.f2
    walk_at "w"
    refine ⟨l1, _, O3.f2.2, put_own O3 1 rfl fun h4 O4 => ?_⟩
    have f4 := O4.f2
    walk_at "w"
    refine new_own (Own.start O4.b) fun l5 h5 O5 => ?_
    unfold rowsD
    rw [List.map_map]
    have iw4 := iw.ext O4.ext
    refine lc_fm (α := Mx.RP) (f := fun x => .int (x.2 : Nat)) (xs := Mx.qAll mv) O5 (fun x => decide (wd.getD x.2 0 = v)) (fun x => lr x.1) (by have : (Mx.qAll mv).length ≤ mv.length := ql; omega) (fun _ _ _ => trivial) ?_ ?_
    · intro x hx acc h6 O6
      have iw6 := iw4.ext O6.ext
      have fw := iw6.2
      unfold watchC at fw
      have f6 := (O4.join O6).f3
      walk_at "w"
      refine W_Watch_words.mono (sp_words iw6) ?_ fun _ _ z => z
      rintro _ _ ⟨rfl, rfl⟩
      unfold encR
      walk_at "w"
      refine ⟨_, atI_nums (by have := qlt x hx; omega), ?_⟩
      walk_at "w"
      refine ⟨?_, Ext.refl _, fun _ => ⟨rowsD_kind, _, rowsD_look qnd hx, ?_⟩⟩
      · simp only [decide_eq_decide]; omega
      · unfold encR
        walk_at "w"
        refine ⟨rowsD_kind, _, rowsD_look qnd hx, by omega, ?_, Ext.refl _⟩
        simp [lr, encR, nums_len]
    intro h6 O6
    have O7 := O4.join O6
    have f7 := O7.f3
    refine ⟨f7.2.2, put_own O7 2 rfl fun h8 O8 => ?_⟩
    have O8' : Own h h8 [(l5, .lst (((Mx.qAll mv).filter fun x => decide (wd.getD x.2 0 = v)).map fun x => lr x.1)), (l2, .lst ((List.range v).map fun v => optR (Mx.firstRow mv wd v))), (l1, .dic false (rowsD (Mx.qAll mv)))] := O8
    clear O8 O7 f7
    have f8 := O8'.f3
    walk_at "n"
    refine ⟨by omega, new_own O8' fun l9 h9 O9 => ?_⟩
    have f9 := O9.f4
    have sub : ∀ x ∈ (Mx.qAll mv).filter (fun x => decide (wd.getD x.2 0 = v)), x ∈ Mx.qAll mv := fun x hx => (List.mem_filter.mp hx).1
    have pls : ∀ q : List Mx.RP, plainAll (q.map fun x => lr x.1) = true ∧ pdeps (q.map fun x => lr x.1) ≤ 3 := by
      intro q
      induction q with
      | nil => simp [plainAll, pdeps]
      | cons x q ih =>
        have := lr_plain x.1
        simp only [List.map_cons, plainAll, pdeps, this.1, ih.1]
        exact ⟨rfl, by omega⟩
    have hfr : Mx.firstRow mv wd v = ((Mx.qAll mv).filter fun x => decide (wd.getD x.2 0 = v)).head?.map (·.1) := by
      unfold Mx.firstRow
      rw [List.head?_filter]
    have srt : ((Mx.qAll mv).filter fun x => decide (wd.getD x.2 0 = v)).Pairwise fun a b => Mx.code k a.1 < Mx.code k b.1 := (Mx.q_srt w.wf).filter _
    generalize (Mx.qAll mv).filter (fun x => decide (wd.getD x.2 0 = v)) = sv at O8' f8 O9 f9 sub hfr srt
    refine ne_nil f9.2.1 f9.1 (pls sv).1 (by have := (pls sv).2; omega) ?_
    have ends : ∀ y : PV, y = optR (Mx.firstRow mv wd v) → ∀ h', h' = h9 → ∃ zs, h'[l2]? = some (.lst zs) ∧ zs = (List.range v).map (fun v => optR (Mx.firstRow mv wd v)) := fun y _ h' e => ⟨_, by rw [e]; exact f9.2.2.1, rfl⟩
    have rs : (List.range (v + 1)).map (fun v => optR (Mx.firstRow mv wd v)) = (List.range v).map (fun v => optR (Mx.firstRow mv wd v)) ++ [optR (Mx.firstRow mv wd v)] := by rw [List.range_succ, List.map_append]; rfl
    cases sv with
    | nil =>
      walk_at "w"
      refine ⟨by simp; omega, put_own O9 2 rfl fun h10 O10 => ?_⟩
      exact O10.sub (.cons _ (.cons _ (List.Sublist.refl _)))
    | cons x sv =>
      walk_at "w"
      have hx := Mx.q_led w.wf (sub x (by simp))
      have hms : ∀ y ∈ sv.map (·.1), (∀ d ∈ y, d < k) ∧ Mx.code k x.1 ≤ Mx.code k y := fun y hy => by
        obtain ⟨z, hz, rfl⟩ := List.mem_map.mp hy
        exact ⟨(Mx.q_led w.wf (sub z (by simp [hz]))).2, Nat.le_of_lt ((List.pairwise_cons.mp srt).1 z hz)⟩
      have mind := min_first (B := k) (r := x.1) (rs := sv.map (·.1)) w.k1 hx.2 hms
      have pl := pls (x :: sv)
      have em : toDs (sv.map fun x => lr x.1) = (sv.map (·.1)).map fun s => toD (lr s) := by rw [toDs_map, List.map_map, List.map_map]; rfl
      simp only [List.isEmpty_cons, Bool.not_false, if_true]
      have pl : plainAll (lr x.1 :: sv.map fun x => lr x.1) = true ∧ pdeps (lr x.1 :: sv.map fun x => lr x.1) ≤ 3 := pl
      have sh : PyData.canLayAll0 (toD (lr x.1) :: toDs (sv.map fun x => lr x.1)) = true ∧ PyData.depthAll (toD (lr x.1) :: toDs (sv.map fun x => lr x.1)) ≤ _ := shape_plains _ pl.1
      have al : PySem.W.AlikeAll (toD (lr x.1) :: toDs (sv.map fun x => lr x.1)) := by
        have := PySem.W.alikeAll_datum (((x :: sv).map (·.1)).map lrD)
        rw [List.map_map] at this
        have e2 : (((x :: sv).map (·.1)).map (PySem.W.Datum.toD ∘ lrD)) = toD (lr x.1) :: toDs (sv.map fun x => lr x.1) := by
          rw [em, List.map_cons, List.map_cons]
          congr 1
          · exact (lr_toD _).symm
          · exact List.map_congr_left fun y _ => (lr_toD y).symm
        rw [e2] at this
        exact this
      refine ⟨64, _, _, mapM_dat (dat_plains 64 _ pl.1 (by have := pl.2; omega)), al, sh.1, by have := sh.2; have := pl.2; omega, fun i y hy hm => ?_⟩
      have iy : y = lr x.1 := by
        rw [em, mind] at hm
        cases i with
        | zero => simpa using hy.symm
        | succ i =>
          simp only [List.map_cons, List.getElem?_cons_succ] at hy hm
          rw [List.getElem?_map] at hy
          rw [List.map_map, List.getElem?_map] at hm
          cases hz : sv[i]? with
          | none => rw [hz] at hy; cases hy
          | some z =>
            rw [hz] at hy hm
            cases hy
            have := lr_inj (Option.some.inj hm)
            exact congrArg lr this
      subst iy
      unfold lr
      walk_at "w"
      refine ⟨_, rfl, ?_⟩
      walk_at "w"
      refine ⟨by simp; omega, put_own O9 2 rfl fun h10 O10 => ?_⟩
      exact O10.sub (.cons _ (.cons _ (List.Sublist.refl _)))
  · rintro e h3 ⟨o1, o2, o3, rfl, O3⟩
    have f3 := O3.f1
    walk_at "n"
    exact O3.ext
end
end K92
end
section
set_option Elab.async false
set_option linter.all false
set_option maxRecDepth 100000
set_option maxHeartbeats 4000000
namespace K92
open PySem L2 PyA
local macro_rules | `(tactic| walk_at "w") => `(tactic| try simp only [w_var, w_c, w_nil, w_cons, w_star, w_tup, w_lst, w_o2, w_on, w_tb, w_chain, w_tand, w_tor, w_tnot, w_tys, w_and, w_or, w_not, w_ife, w_neg, w_call, w_callK, w_callP, w_callL, w_lam0, w_mt, w_fld, w_xf, w_prop, w_make, w_dic0, w_disp, w_pnil, w_pcons, w_lc, w_dc, w_lock, w_slock, w_lkAt, w_lkN, w_lkR, w_lkB, w_lkC, w_lkX, w_rg1, w_seq, w_skip, w_brk, w_cnt, w_exp, w_ret, w_retN, w_asg, w_if, w_par, w_par3, w_for, w_raise, w_try, w_sfld, w_nm, w_gnil, w_gcons, w_gtp, w_gix, w_o3, w_itS, w_itR1, w_itR2, w_itEn, w_itK, w_itKV, w_seqL, w_seqT, w_seqF, w_seqTF, w_enT, w_enF, w_enL, w_sub, w_mul, w_mod, w_fdiv, w_pow, w_lt, w_le, w_gt, w_ge, w_isN, w_notN, w_addI, w_addS, w_addT, w_ixT, w_ixF, w_ixL, w_lenT, w_lenF, w_lenTF, w_lenS, w_lenL, w_f1, w_i2, w_LI, w_LB, w_sort, w_listT, w_listF, w_listL, w_tupT, w_tupF, w_tupL, w_tupleF, w_lenSet, w_minD, w_tupIx, w_append, w_popAt, w_get, w_setd, w_recvL, w_itT, w_itF, w_itTF, w_itL, w_itI, w_itN, w_itB, w_itStr, w_F, w_L, w_lkm, w_lkw, w_ip1, w_ip2, w_fIntI, w_fIntB, w_fAbs, w_dkI, w_dkS, w_dkT, w_kind0, w_kindC, w_eqI, w_neI, Sum.isLeft_inl, Sum.isLeft_inr, decide_eq_true_eq, exists_false, exists_prop_of_true, w_itpL, w_itpF, w_itpT, w_itpTF, w_isNI, w_isNN, w_isNB, w_isNS, w_isNT, w_isNTF, w_isNF, w_isNL, w_isNX, wipeE, perm, List.map_cons, List.map_nil, List.getD_cons_zero, List.getD_cons_succ, List.length_cons, List.length_nil, List.replicate, List.cons_append, List.nil_append, List.append_nil, List.getElem?_cons_zero, List.getElem?_cons_succ, List.getElem?_nil, List.set_cons_zero, List.set_cons_succ, Option.some.injEq, Sum.inl.injEq, Sum.inr.injEq, PV.int.injEq, PV.bl.injEq, PV.loc.injEq, PV.tup.injEq, PV.str.injEq, PV.fls.injEq, PV.ftp.injEq, Cell.lst.injEq, Cell.dic.injEq, Cell.ins.injEq, Cell.dik.injEq, List.cons.injEq, exists_eq_left, exists_eq_left', exists_and_left, exists_and_right, exists_eq_right, exists_eq_right', exists_const, exists_eq, exists_eq', reduceCtorEq, false_and, and_false, true_and, and_true, or_false, false_or, true_or, or_true, and_self, if_true, if_false, Bool.false_eq_true, Bool.not_true, Bool.not_false, Nat.zero_add, Nat.reduceAdd, Nat.reduceSub, Nat.reduceLeDiff, Nat.reduceEqDiff, and_assoc, *])
local macro_rules | `(tactic| walk_at "n") => `(tactic| ((first | refine w_go ?_ | (dsimp only; refine w_go ?_) | (walk_at "w"; refine w_go ?_)); walk_at "w"))
local macro_rules | `(tactic| walk_at "v") => `(tactic| try simp only [w_var, w_c, w_nil, w_cons, w_star, w_tup, w_lst, w_o2, w_on, w_tb, w_chain, w_tand, w_tor, w_tnot, w_tys, w_and, w_or, w_not, w_ife, w_neg, w_call, w_callK, w_callP, w_callL, w_lam0, w_mt, w_fld, w_xf, w_prop, w_make, w_dic0, w_disp, w_pnil, w_pcons, w_lc, w_dc, w_lock, w_slock, w_lkAt, w_lkN, w_lkR, w_lkB, w_lkC, w_lkX, w_rg1, w_seq, w_skip, w_brk, w_cnt, w_exp, w_ret, w_retN, w_asg, w_if, w_par, w_par3, w_for, w_raise, w_try, w_sfld, w_nm, w_gnil, w_gcons, w_gtp, w_gix, w_o3, w_itS, w_itR1, w_itR2, w_itEn, w_itK, w_itKV, w_seqL, w_seqT, w_seqF, w_seqTF, w_enT, w_enF, w_enL, w_sub, w_mul, w_mod, w_fdiv, w_pow, w_lt, w_le, w_gt, w_ge, w_isN, w_notN, w_addI, w_addS, w_addT, w_ixT, w_ixF, w_lenT, w_lenF, w_lenTF, w_lenS, w_lenL, w_f1, w_i2, w_LI, w_LB, w_sort, w_listT, w_listF, w_listL, w_tupT, w_tupF, w_tupL, w_tupleF, w_lenSet, w_minD, w_tupIx, w_append, w_popAt, w_get, w_setd, w_recvL, w_itT, w_itF, w_itTF, w_itL, w_itI, w_itN, w_itB, w_itStr, w_F, w_L, w_lkm, w_lkw, w_ip1, w_ip2, w_fIntI, w_fIntB, w_fAbs, w_dkI, w_dkS, w_dkT, w_kind0, w_kindC, w_eqI, w_neI, Sum.isLeft_inl, Sum.isLeft_inr, decide_eq_true_eq, exists_false, exists_prop_of_true, w_itpL, w_itpF, w_itpT, w_itpTF, w_isNI, w_isNN, w_isNB, w_isNS, w_isNT, w_isNTF, w_isNF, w_isNL, w_isNX, wipeE, perm, List.map_cons, List.map_nil, List.getD_cons_zero, List.getD_cons_succ, List.length_cons, List.length_nil, List.replicate, List.cons_append, List.nil_append, List.append_nil, List.getElem?_cons_zero, List.getElem?_cons_succ, List.getElem?_nil, List.set_cons_zero, List.set_cons_succ, Option.some.injEq, Sum.inl.injEq, Sum.inr.injEq, PV.int.injEq, PV.bl.injEq, PV.loc.injEq, PV.tup.injEq, PV.str.injEq, PV.fls.injEq, PV.ftp.injEq, Cell.lst.injEq, Cell.dic.injEq, Cell.ins.injEq, Cell.dik.injEq, List.cons.injEq, exists_eq_left, exists_eq_left', exists_and_left, exists_and_right, exists_eq_right, exists_eq_right', exists_const, exists_eq, exists_eq', reduceCtorEq, false_and, and_false, true_and, and_true, or_false, false_or, true_or, or_true, and_self, if_true, if_false, Bool.false_eq_true, Bool.not_true, Bool.not_false, Nat.zero_add, Nat.reduceAdd, Nat.reduceSub, Nat.reduceLeDiff, Nat.reduceEqDiff, and_assoc, *])
section
variable {h : Hh}
/-- a list of numbers by their places -/
def tab (m : Nat) (f : Nat → Nat) : List PV := (List.range m).map fun p => .int (f p : Nat)
theorem tab_len {m : Nat} {f : Nat → Nat} : (tab m f).length = m := by simp [tab]
theorem tab_at {m : Nat} {f : Nat → Nat} {p : Nat} (h : p < m) : atI (tab m f) (p : Nat) = some (.int (f p : Nat)) := by
  unfold tab
  exact atI_map (xs := List.range m) (x := p) (by simp [h])
theorem tab_set {m : Nat} {f f' : Nat → Nat} {p v : Nat} (h : p < m) (e : ∀ q, q < m → f' q = if q = p then v else f q) : (tab m f).set p (.int (v : Nat)) = tab m f' := by
  apply List.ext_getElem
  · simp [tab]
  · intro i h1 h2
    simp [tab] at h2
    rw [List.getElem_set]
    simp only [tab, List.getElem_map, List.getElem_range]
    rw [e i h2]
    by_cases hi : i = p
    · rw [if_pos hi.symm, if_pos hi]
    · rw [if_neg (fun z => hi z.symm), if_neg hi]
theorem tab_ext {m : Nat} {f f' : Nat → Nat} (e : ∀ q, q < m → f q = f' q) : tab m f = tab m f' := List.map_congr_left fun p hp => by rw [e p (by simpa using hp)]
theorem rep_zero (m : Nat) : (List.replicate m [PV.int 0]).flatten = tab m fun _ => 0 := by
  induction m with
  | zero => rfl
  | succ m ih => rw [List.replicate_succ', List.flatten_append, ih]; unfold tab; rw [List.range_succ, List.map_append]; rfl
theorem range_split {m p : Nat} {d r : List Nat} (h : d ++ p :: r = List.range m) : p = d.length ∧ p < m ∧ d = List.range p := by
  have h2 := congrArg (fun l => l[d.length]?) h
  simp only [List.getElem?_append_right (Nat.le_refl _), Nat.sub_self, List.getElem?_cons_zero] at h2
  obtain ⟨a, b⟩ := List.getElem?_eq_some_iff.mp h2.symm
  simp at a b
  refine ⟨b.symm, by omega, ?_⟩
  have h3 := congrArg (List.take d.length) h
  rw [List.take_left', List.take_range] at h3
  · rw [h3]; congr 1; omega
  · rfl
theorem nums_tab {m : Nat} {f : Nat → Nat} : tab m f = nums ((List.range m).map f) := nums_map f _
/-- many[0] = 1 -/
theorem tab_ways0 {mv : List (List Nat)} {m : Nat} (h : 0 < m) : (tab m fun _ => 0).set 0 (.int 1) = tab m (Mx.ways mv 0) := tab_set (v := 1) h fun q _ => rfl
theorem sp_word_counts {l k d : Nat} {mv : List (List Nat)} {wd : List Nat} (b : 3 ≤ h.length) (iw : IsW h l mv wd) (w : Fit k mv wd) (hd : d ≤ 300) :
    W_word_counts.run [.loc l, .int d] h (fun v h' => v = encR ((List.range 4).map (Mx.wcount mv wd d)) ∧ Ext h h') NX := by
  have big := sl_big
  have m6 := w.m6
  have mp := w.wf.pos
  have fw := iw.2
  unfold watchC at fw
  unfold W_word_counts
  walk_at "w"
  refine W_need_watch.mono (sp_need_watch iw) ?_ fun _ _ z => z
  rintro _ _ ⟨rfl, rfl⟩
  walk_at "n"
  refine W_is_between.mono (sp_is_between (x := .int d) trivial) ?_ fun _ _ z => z
  rintro _ _ ⟨rfl, rfl⟩
  have hb : btw (.int (d : Nat)) 0 300 = true := by simp [btw]; omega
  walk_at "w"
  walk_at "n"
  refine ⟨by omega, new_own (Own.start b) fun l1 h1 O1 => ?_⟩
  have iw1 := iw.ext O1.ext
  have f1 := O1.f1
  have fw1 := iw1.2
  unfold watchC at fw1
  walk_at "w"
  refine W_Watch_moves.mono (sp_moves iw1) ?_ fun _ _ z => z
  rintro _ _ ⟨rfl, rfl⟩
  unfold encM
  walk_at "w"
  refine ⟨by omega, by simp; omega, by simp; omega, new_own O1.nil fun l2 h2 O2 => ?_⟩
  rw [show (((mv.map encR).length : Nat) : Int).toNat = mv.length by simp, rep_zero] at O2
  have f2 := O2.f1
  walk_at "n"
  refine ⟨0, by rw [tab_len]; exact ixN_nat mp, put_own O2 0 rfl fun h3 O3 => ?_⟩
  rw [tab_ways0 (mv := mv) mp] at O3
  walk_at "n"
  refine ⟨by omega, by omega, ?_⟩
  rw [Int.toNat_natCast]
  refine for_rng (fun i e h' => ∃ (l3 : Nat) (o3 o4 o5 o6 o7 : Option PV), e = [some (.loc l), some (.int (d : Nat)), some (.loc l3), o3, o4, o5, o6, o7, none] ∧ Own h h' [(l3, .lst (tab mv.length (Mx.ways mv i)))]) ⟨l2, none, none, none, none, none, rfl, O3⟩ ?_ ?_
  · rintro i hi e h4 ⟨l3, o3, o4, o5, o6, o7, rfl, O4⟩
    have f4 := O4.f1
    walk_at "w"
    refine ⟨by omega, new_own O4 fun l4 h5 O5 => ?_⟩
    have f5 := O5.f2
    walk_at "w"
    rw [tab_len]
    refine ⟨by omega, by omega, by simp; omega, new_own O5 fun l5 h6 O6 => ?_⟩
    rw [Int.toNat_natCast, rep_zero] at O6
    replace O6 := O6.sub (M := [(l5, _), (l3, _)]) (.cons₂ _ (.cons _ (.cons₂ _ .slnil)))
    have f6 := O6.f2
    walk_at "n"
    have sg : ∀ (e : List Nat) (dd : List Nat) (p q : Nat), (Mx.sumOf dd fun p => Mx.ways mv i p * (Mx.goals mv p).count q) + Mx.ways mv i p * e.count q = (Mx.sumOf dd fun p => Mx.ways mv i p * (Mx.goals mv p).count q) + Mx.ways mv i p * e.count q := fun _ _ _ _ => rfl
    refine for_enum (α := Nat) (f := fun p => .int (Mx.ways mv i p : Nat)) (xs := List.range mv.length) (fun dd e h' => ∃ (o5 o6 o7 : Option PV), e = [some (.loc l), some (.int (d : Nat)), some (.loc l3), some (.int (0 + (i : Nat))), some (.loc l5), o5, o6, o7, none] ∧
      Own h h' [(l5, .lst (tab mv.length fun q => Mx.sumOf dd fun p => Mx.ways mv i p * (Mx.goals mv p).count q)), (l3, .lst (tab mv.length (Mx.ways mv i)))]) ⟨o5, o6, o7, rfl, O6⟩ (fun d e h' ⟨_, _, _, _, O'⟩ => O'.f2.2) ?_ ?_
    · rintro dd p r hd0 e h7 ⟨o5, o6, o7, rfl, O7⟩
      obtain ⟨ep, hp, edd⟩ := range_split hd0.symm
      rw [← ep]
      clear hd0 ep edd
      have iw7 := iw.ext O7.ext
      have fw7 := iw7.2
      unfold watchC at fw7
      walk_at "w"
      refine W_Watch_moves.mono (sp_moves iw7) ?_ fun _ _ z => z
      rintro _ _ ⟨rfl, rfl⟩
      unfold encM
      walk_at "w"
      refine ⟨_, atI_rows hp, ?_⟩
      unfold encR
      walk_at "w"
      refine for_inv (α := Nat) (f := fun n => .int n) (xs := Mx.goals mv p) (fun ee e h' => ∃ (o7 : Option PV), e = [some (.loc l), some (.int (d : Nat)), some (.loc l3), some (.int (0 + (i : Nat))), some (.loc l5), some (.int (p : Nat)), some (.int (Mx.ways mv i p : Nat)), o7, none] ∧
        Own h h' [(l5, .lst (tab mv.length fun q => (Mx.sumOf dd fun p => Mx.ways mv i p * (Mx.goals mv p).count q) + Mx.ways mv i p * ee.count q)), (l3, .lst (tab mv.length (Mx.ways mv i)))]) ⟨o7, rfl, by simpa using O7⟩ (fun _ _ _ _ => trivial) ?_ ?_
      · rintro ee g r2 hg0 e h8 ⟨o7, rfl, O8⟩
        have hg : g < mv.length := w.wf.lt p g hp (by rw [hg0]; simp)
        clear hg0
        have f8 := O8.f2
        walk_at "w"
        refine ⟨_, tab_at hg, ?_⟩
        walk_at "w"
        refine ⟨g, by rw [tab_len]; exact ixN_nat hg, put_own O8 0 rfl fun h9 O9 => ?_⟩
        rw [← Int.natCast_add, tab_set hg (f' := fun q => (Mx.sumOf dd fun p => Mx.ways mv i p * (Mx.goals mv p).count q) + Mx.ways mv i p * (ee ++ [g]).count q)] at O9
        · exact O9
        · intro q _
          rw [List.count_append, List.count_singleton]
          by_cases hq : q = g
          · subst hq; simp [Nat.mul_add]; omega
          · rw [if_neg hq]
            have : ¬ g = q := fun z => hq z.symm
            simp [this]
      · rintro e h8 ⟨o7, rfl, O8⟩
        walk_at "w"
        have : (tab mv.length fun q => (Mx.sumOf dd fun p => Mx.ways mv i p * (Mx.goals mv p).count q) + Mx.ways mv i p * (Mx.goals mv p).count q) = tab mv.length fun q => Mx.sumOf (dd ++ [p]) fun p => Mx.ways mv i p * (Mx.goals mv p).count q := tab_ext fun q _ => by rw [Mx.sumOf_append, Mx.sumOf_cons, Mx.sumOf_nil]; rfl
        rw [this] at O8
        exact O8
    · rintro e h7 ⟨o5, o6, o7, rfl, O7⟩
      walk_at "n"
      exact O7.sub (.cons₂ _ (List.nil_sublist _))
  · rintro e h4 ⟨l3, o3, o4, o5, o6, o7, rfl, O4⟩
    have f4 := O4.f1
    walk_at "n"
    refine ⟨by omega, new_own O4 fun l5 h5 O5 => ?_⟩
    have f5 := O5.f2
    walk_at "w"
    refine ⟨by decide, by decide, by simp; omega, new_own O5 fun l6 h6 O6 => ?_⟩
    rw [show ((3 : Int) + 1).toNat = 4 from rfl, rep_zero] at O6
    replace O6 := O6.sub (M := [(l6, _), (l3, _)]) (.cons₂ _ (.cons _ (.cons₂ _ .slnil)))
    have f6 := O6.f2
    walk_at "n"
    refine for_enum (α := Nat) (f := fun p => .int (Mx.ways mv d p : Nat)) (xs := List.range mv.length) (fun dd e h' => ∃ (o5 o6 : Option PV), e = [some (.loc l), some (.int (d : Nat)), some (.loc l3), o3, o4, o5, o6, o7, some (.loc l6)] ∧
      Own h h' [(l6, .lst (tab 4 fun v => Mx.sumOf dd fun p => if wd.getD p 0 = v then Mx.ways mv d p else 0)), (l3, .lst (tab mv.length (Mx.ways mv d)))]) ⟨o5, o6, rfl, O6⟩ (fun d e h' ⟨_, _, _, O'⟩ => O'.f2.2) ?_ ?_
    · rintro dd p r hd0 e h7 ⟨o5, o6, rfl, O7⟩
      obtain ⟨ep, hp, edd⟩ := range_split hd0.symm
      rw [← ep]
      clear hd0 ep edd
      have iw7 := iw.ext O7.ext
      have fw7 := iw7.2
      unfold watchC at fw7
      have f7 := O7.f2
      have wl := w.wf.wl
      have w3 : wd.getD p 0 < 4 := by
        rw [List.getD_eq_getElem?_getD, List.getElem?_eq_getElem (by omega)]
        have := w.w3 _ (List.getElem_mem (l := wd) (n := p) (by omega))
        simp only [Option.getD_some]
        omega
      walk_at "w"
      refine W_Watch_words.mono (sp_words iw7) ?_ fun _ _ z => z
      rintro _ _ ⟨rfl, rfl⟩
      unfold encR
      walk_at "w"
      refine ⟨_, atI_nums (by omega), ?_⟩
      walk_at "w"
      refine ⟨_, tab_at w3, ?_⟩
      walk_at "w"
      refine W_Watch_words.mono (sp_words iw7) ?_ fun _ _ z => z
      rintro _ _ ⟨rfl, rfl⟩
      unfold encR
      walk_at "w"
      refine ⟨_, atI_nums (by omega), ?_⟩
      walk_at "w"
      refine ⟨_, by rw [tab_len]; exact ixN_nat w3, put_own O7 0 rfl fun h9 O9 => ?_⟩
      rw [← Int.natCast_add, tab_set w3 (f' := fun v => Mx.sumOf (dd ++ [p]) fun p => if wd.getD p 0 = v then Mx.ways mv d p else 0)] at O9
      · exact O9
      · intro q _
        rw [Mx.sumOf_append, Mx.sumOf_cons, Mx.sumOf_nil]
        by_cases hq : q = wd.getD p 0
        · subst hq; simp
        · rw [if_neg hq, if_neg (fun z => hq z.symm)]; simp
    · rintro e h7 ⟨o5, o6, rfl, O7⟩
      have f7 := O7.f1
      walk_at "n"
      exact ⟨by rw [nums_tab]; rfl, O7.ext⟩
end
end K92
end
section
set_option Elab.async false
set_option linter.all false
set_option maxRecDepth 100000
set_option maxHeartbeats 4000000
namespace K92
open PySem L2 PyA
local macro_rules | `(tactic| walk_at "w") => `(tactic| try simp only [w_var, w_c, w_nil, w_cons, w_star, w_tup, w_lst, w_o2, w_on, w_tb, w_chain, w_tand, w_tor, w_tnot, w_tys, w_and, w_or, w_not, w_ife, w_neg, w_call, w_callK, w_callP, w_callL, w_lam0, w_mt, w_fld, w_xf, w_prop, w_make, w_dic0, w_disp, w_pnil, w_pcons, w_lc, w_dc, w_lock, w_slock, w_lkAt, w_lkN, w_lkR, w_lkB, w_lkC, w_lkX, w_rg1, w_seq, w_skip, w_brk, w_cnt, w_exp, w_ret, w_retN, w_asg, w_if, w_par, w_par3, w_for, w_raise, w_try, w_sfld, w_nm, w_gnil, w_gcons, w_gtp, w_gix, w_o3, w_itS, w_itR1, w_itR2, w_itEn, w_itK, w_itKV, w_seqL, w_seqT, w_seqF, w_seqTF, w_enT, w_enF, w_enL, w_sub, w_mul, w_mod, w_fdiv, w_pow, w_lt, w_le, w_gt, w_ge, w_isN, w_notN, w_addI, w_addS, w_addT, w_ixT, w_ixF, w_ixL, w_lenT, w_lenF, w_lenTF, w_lenS, w_lenL, w_f1, w_i2, w_LI, w_LB, w_sort, w_listT, w_listF, w_listL, w_tupT, w_tupF, w_tupL, w_tupleF, w_lenSet, w_minD, w_tupIx, w_append, w_popAt, w_get, w_setd, w_recvL, w_itT, w_itF, w_itTF, w_itL, w_itI, w_itN, w_itB, w_itStr, w_F, w_L, w_lkm, w_lkw, w_ip1, w_ip2, w_fIntI, w_fIntB, w_fAbs, w_dkI, w_dkS, w_dkT, w_kind0, w_kindC, w_eqI, w_neI, Sum.isLeft_inl, Sum.isLeft_inr, decide_eq_true_eq, exists_false, exists_prop_of_true, w_itpL, w_itpF, w_itpT, w_itpTF, w_isNI, w_isNN, w_isNB, w_isNS, w_isNT, w_isNTF, w_isNF, w_isNL, w_isNX, wipeE, perm, List.map_cons, List.map_nil, List.getD_cons_zero, List.getD_cons_succ, List.length_cons, List.length_nil, List.replicate, List.cons_append, List.nil_append, List.append_nil, List.getElem?_cons_zero, List.getElem?_cons_succ, List.getElem?_nil, List.set_cons_zero, List.set_cons_succ, Option.some.injEq, Sum.inl.injEq, Sum.inr.injEq, PV.int.injEq, PV.bl.injEq, PV.loc.injEq, PV.tup.injEq, PV.str.injEq, PV.fls.injEq, PV.ftp.injEq, Cell.lst.injEq, Cell.dic.injEq, Cell.ins.injEq, Cell.dik.injEq, List.cons.injEq, exists_eq_left, exists_eq_left', exists_and_left, exists_and_right, exists_eq_right, exists_eq_right', exists_const, exists_eq, exists_eq', reduceCtorEq, false_and, and_false, true_and, and_true, or_false, false_or, true_or, or_true, and_self, if_true, if_false, Bool.false_eq_true, Bool.not_true, Bool.not_false, Nat.zero_add, Nat.reduceAdd, Nat.reduceSub, Nat.reduceLeDiff, Nat.reduceEqDiff, and_assoc, *])
local macro_rules | `(tactic| walk_at "n") => `(tactic| ((first | refine w_go ?_ | (dsimp only; refine w_go ?_) | (walk_at "w"; refine w_go ?_)); walk_at "w"))
local macro_rules | `(tactic| walk_at "v") => `(tactic| try simp only [w_var, w_c, w_nil, w_cons, w_star, w_tup, w_lst, w_o2, w_on, w_tb, w_chain, w_tand, w_tor, w_tnot, w_tys, w_and, w_or, w_not, w_ife, w_neg, w_call, w_callK, w_callP, w_callL, w_lam0, w_mt, w_fld, w_xf, w_prop, w_make, w_dic0, w_disp, w_pnil, w_pcons, w_lc, w_dc, w_lock, w_slock, w_lkAt, w_lkN, w_lkR, w_lkB, w_lkC, w_lkX, w_rg1, w_seq, w_skip, w_brk, w_cnt, w_exp, w_ret, w_retN, w_asg, w_if, w_par, w_par3, w_for, w_raise, w_try, w_sfld, w_nm, w_gnil, w_gcons, w_gtp, w_gix, w_o3, w_itS, w_itR1, w_itR2, w_itEn, w_itK, w_itKV, w_seqL, w_seqT, w_seqF, w_seqTF, w_enT, w_enF, w_enL, w_sub, w_mul, w_mod, w_fdiv, w_pow, w_lt, w_le, w_gt, w_ge, w_isN, w_notN, w_addI, w_addS, w_addT, w_ixT, w_ixF, w_lenT, w_lenF, w_lenTF, w_lenS, w_lenL, w_f1, w_i2, w_LI, w_LB, w_sort, w_listT, w_listF, w_listL, w_tupT, w_tupF, w_tupL, w_tupleF, w_lenSet, w_minD, w_tupIx, w_append, w_popAt, w_get, w_setd, w_recvL, w_itT, w_itF, w_itTF, w_itL, w_itI, w_itN, w_itB, w_itStr, w_F, w_L, w_lkm, w_lkw, w_ip1, w_ip2, w_fIntI, w_fIntB, w_fAbs, w_dkI, w_dkS, w_dkT, w_kind0, w_kindC, w_eqI, w_neI, Sum.isLeft_inl, Sum.isLeft_inr, decide_eq_true_eq, exists_false, exists_prop_of_true, w_itpL, w_itpF, w_itpT, w_itpTF, w_isNI, w_isNN, w_isNB, w_isNS, w_isNT, w_isNTF, w_isNF, w_isNL, w_isNX, wipeE, perm, List.map_cons, List.map_nil, List.getD_cons_zero, List.getD_cons_succ, List.length_cons, List.length_nil, List.replicate, List.cons_append, List.nil_append, List.append_nil, List.getElem?_cons_zero, List.getElem?_cons_succ, List.getElem?_nil, List.set_cons_zero, List.set_cons_succ, Option.some.injEq, Sum.inl.injEq, Sum.inr.injEq, PV.int.injEq, PV.bl.injEq, PV.loc.injEq, PV.tup.injEq, PV.str.injEq, PV.fls.injEq, PV.ftp.injEq, Cell.lst.injEq, Cell.dic.injEq, Cell.ins.injEq, Cell.dik.injEq, List.cons.injEq, exists_eq_left, exists_eq_left', exists_and_left, exists_and_right, exists_eq_right, exists_eq_right', exists_const, exists_eq, exists_eq', reduceCtorEq, false_and, and_false, true_and, and_true, or_false, false_or, true_or, or_true, and_self, if_true, if_false, Bool.false_eq_true, Bool.not_true, Bool.not_false, Nat.zero_add, Nat.reduceAdd, Nat.reduceSub, Nat.reduceLeDiff, Nat.reduceEqDiff, and_assoc, *])
section
variable {h : Hh}
/-- what a drawing leaves -/
structure Dr (h h' : Hh) : Prop where
  ext : Ext h h'
  tp : Tp true h'
theorem sp_watch {pl k wn : Nat} (T : Tp true h) (p1 : 1 ≤ pl) (p6 : pl ≤ 6) (k1 : 1 ≤ k) (k4 : k ≤ 4) (w1 : 1 ≤ wn) (w4 : wn ≤ 4) :
    W__law_watch.run [.loc 1, .int pl, .int k, .int wn] h (fun v h' => ∃ mv wd, v = encW mv wd ∧ Fit k mv wd ∧ mv.length ≤ pl ∧ (∀ w ∈ wd, w < wn) ∧ Dr h h') NX := by
  have big := sl_big
  unfold W__law_watch
  walk_at "w"
  refine W__law_draw.mono (sp_draw T (by omega) (by omega)) ?_ fun _ _ z => z
  rintro _ h1 ⟨r, rfl, hr, E1, T1⟩
  walk_at "n"
  have em : (1 : Int) + (r : Nat) = ((r + 1 : Nat) : Int) := by omega
  rw [em]
  refine ⟨by omega, by omega, new_own (Own.start T1.b) fun l2 h2 O2 => ?_⟩
  refine lc_ex O2 encR (f := fun i : Nat => .int (0 + (i : Nat))) (xs := List.range (r + 1)) (fun _ row => row.length = k ∧ ∀ g ∈ row, g < r + 1) (by simp; omega) (fun _ _ _ => trivial) ?_ ?_
  · intro i _ acc h3 O3
    walk_at "w"
    refine ⟨Ext.refl _, by omega, by omega, new_own (Own.start O3.b) fun l4 h4 O4 => ?_⟩
    refine lc_ex O4 (fun n : Nat => .int n) (f := fun i : Nat => .int (0 + (i : Nat))) (xs := List.range k) (fun _ n => n < r + 1) (by simp; omega) (fun _ _ _ => trivial) ?_ ?_
    · intro j _ acc h5 O5
      walk_at "w"
      refine ⟨Ext.refl _, ?_⟩
      refine W__law_draw.mono (sp_draw (O5.ext.tape true (O3.ext.tape true T1)) (by omega) (by omega)) ?_ fun _ _ z => z
      rintro _ h6 ⟨n, rfl, hn, E6, T6⟩
      exact ⟨n, rfl, by omega, E6⟩
    · intro row h5 hl hg O5
      have f5 := O5.f1
      walk_at "w"
      refine ⟨row, rfl, by simpa using hl, fun g hg' => ?_, O5.ext⟩
      obtain ⟨_, _, h⟩ := good_mem hl hg g hg'
      exact h
  · intro mv h3 hl hg O3
    have f3 := O3.f1
    have T3 := O3.ext.tape true T1
    walk_at "w"
    walk_at "n"
    refine ⟨by omega, by omega, new_own (Own.start T3.b) fun l4 h4 O4 => ?_⟩
    refine lc_ex O4 (fun n : Nat => .int n) (f := fun i : Nat => .int (0 + (i : Nat))) (xs := List.range (r + 1)) (fun _ n => n < wn) (by simp; omega) (fun _ _ _ => trivial) ?_ ?_
    · intro j _ acc h5 O5
      walk_at "w"
      refine ⟨Ext.refl _, ?_⟩
      refine W__law_draw.mono (sp_draw (O5.ext.tape true T3) (by omega) (by omega)) ?_ fun _ _ z => z
      rintro _ h6 ⟨n, rfl, hn, E6, T6⟩
      exact ⟨n, rfl, by omega, E6⟩
    · intro wd h5 hlw hgw O5
      have f5 := O5.f1
      walk_at "w"
      refine ⟨by omega, mv, wd, rfl, ?_, ?_, ?_, (E1.trans O3.ext).trans O5.ext, O5.ext.tape true T3⟩
      · simp at hl hlw
        refine fit_of (by omega) (by omega) (by omega) k1 k4 ?_ ?_ ?_
        · intro row hrow
          obtain ⟨_, _, h⟩ := good_mem (by simpa using hl) hg row hrow
          exact h.1
        · intro row hrow g hg'
          obtain ⟨_, _, h⟩ := good_mem (by simpa using hl) hg row hrow
          have := h.2 g hg'
          omega
        · intro w hw
          obtain ⟨_, _, h⟩ := good_mem (by simpa using hlw) hgw w hw
          omega
      · simp at hl; omega
      · intro w hw
        obtain ⟨_, _, h⟩ := good_mem (by simpa using hlw) hgw w hw
        exact h
theorem sp_made {k : Nat} {mv : List (List Nat)} {wd : List Nat} (b : 3 ≤ h.length) (w : Fit k mv wd) : W__law_made.run [encW mv wd] h (fun v h' => ∃ l, v = .loc l ∧ Own h h' [(l, watchC mv wd)]) NX := by
  have big := sl_big
  have m6 := w.m6
  unfold W__law_made encW
  walk_at "w"
  refine ⟨encM mv, rfl, ?_⟩
  unfold encM
  walk_at "w"
  refine new_own (Own.start b) fun l1 h1 O1 => ?_
  refine lc_ownL (α := List Nat) (f := encR) (xs := mv) O1 (fun d acc L => ∃ ls : List Nat, ls.length = d.length ∧ acc = ls.map PV.loc ∧ ∀ (i l : Nat) (r : List Nat), ls[i]? = some l → d[i]? = some r → (l, Cell.lst (nums r)) ∈ L) ⟨[], rfl, rfl, fun i l r e => by simp at e⟩ (by omega) (fun _ _ _ _ => trivial) ?_ ?_
  · rintro d r rest acc L h2 hd ⟨ls, hl, rfl, hL⟩ O2
    unfold encR
    walk_at "w"
    refine new_own O2 fun l3 h3 O3 => ?_
    refine ⟨_, O3.swap, ls ++ [l3], by simp [hl], by simp, ?_⟩
    intro i l r' h1 h2
    by_cases hi : i < ls.length
    · rw [List.getElem?_append_left hi] at h1
      rw [List.getElem?_append_left (by omega)] at h2
      exact .tail _ (hL i l r' h1 h2)
    · have hi2 : i = ls.length := by
        have := (List.getElem?_eq_some_iff.mp h1).1
        simp at this; omega
      subst hi2
      rw [List.getElem?_append_right (Nat.le_refl _)] at h1
      rw [List.getElem?_append_right (by omega), ← hl] at h2
      simp at h1 h2
      subst h1 h2
      exact .head _
  · rintro acc L h2 O2 ⟨ls, hl, rfl, hL⟩
    walk_at "w"
    refine ⟨encR wd, rfl, ?_⟩
    unfold encR
    walk_at "w"
    refine new_own O2 fun l3 h3 O3 => ?_
    have hb := O3.base
    have s1 : SeqV h3 (.loc l1) (ls.map PV.loc) := ⟨by have := O3.ge (l := l1) (c := .lst (ls.map PV.loc)) (by simp); omega, O3.f2.2⟩
    have s2 : SeqV h3 (.loc l3) (nums wd) := ⟨by have := O3.ge1; omega, O3.f1⟩
    refine make_watch O3.b s1 nof_loc (fun y hy => ?_) (rows_of (by simpa using hl) fun i x r h1 h2 => ?_) w s2 nof_loc fun l' h4 O4 => ?_
    · obtain ⟨z, _, rfl⟩ := List.mem_map.mp hy
      exact nof_loc
    · rw [List.getElem?_map] at h1
      cases hz : ls[i]? with
      | none => rw [hz] at h1; cases h1
      | some z =>
        rw [hz] at h1
        cases h1
        have hm := hL i z r hz h2
        have hm' : (z, Cell.lst (nums r)) ∈ (l3, Cell.lst (nums wd)) :: (l1, .lst (ls.map PV.loc)) :: L := .tail _ (.tail _ hm)
        exact ⟨by have := O3.ge hm'; omega, O3.get hm'⟩
    · exact (O3.join O4).sub (.cons₂ _ (List.nil_sublist _))
theorem sp_place {k : Nat} {mv : List (List Nat)} {wd : List Nat} {x : PV} {r : List Nat} (w : Mx.WF k mv wd) (s : SeqV h x (nums r)) (hd : ∀ d ∈ r, d < k) : W__law_place.run [encW mv wd, x] h (fun v h' => v = .int (Mx.led mv 0 r : Nat) ∧ h = h') NX := by
  unfold W__law_place
  walk_at "w"
  refine w_go ?_
  walk_at "w"
  refine itr_of s fun ok hok => ?_
  refine for_inv (α := Nat) (f := fun n => .int n) (xs := r) (fun d e h' => ∃ o, e = [some (encW mv wd), some x, some (.int (Mx.led mv 0 d : Nat)), o] ∧ h = h') ⟨none, rfl, rfl⟩ (fun d e h' ⟨_, _, eh⟩ => by rw [← eh]; exact hok h (Ext.refl h)) ?_ ?_
  · rintro d n r' hr e h' ⟨o, rfl, rfl⟩
    have hl : Mx.led mv 0 d < mv.length := w.led_lt w.pos fun z hz => hd z (by rw [hr]; simp [hz])
    have hn : n < k := hd n (by rw [hr]; simp)
    unfold encW
    walk_at "w"
    refine ⟨encM mv, rfl, ?_⟩
    unfold encM
    walk_at "w"
    refine ⟨_, atI_rows hl, ?_⟩
    unfold encR
    walk_at "w"
    rw [atI_nums (by rw [w.kl _ hl]; exact hn), Mx.led_snoc]; rfl
  · rintro e h' ⟨o, rfl, rfl⟩
    walk_at "n"
theorem sp_word {k : Nat} {mv : List (List Nat)} {wd : List Nat} {x : PV} {r : List Nat} (w : Mx.WF k mv wd) (s : SeqV h x (nums r)) (hd : ∀ d ∈ r, d < k) : W__law_word.run [encW mv wd, x] h (fun v h' => v = .int (Mx.says mv wd 0 r : Nat) ∧ h = h') NX := by
  have hl : Mx.led mv 0 r < wd.length := by rw [w.wl]; exact w.led_lt w.pos hd
  unfold W__law_word
  walk_at "w"
  refine ix_of (x := encW mv wd) (xs := [encM mv, encR wd]) (y := encR wd) rfl rfl ?_
  refine W__law_place.mono (sp_place w s hd) ?_ fun _ _ z => z
  rintro _ _ ⟨rfl, rfl⟩
  exact ix_of (x := encR wd) (xs := nums wd) rfl (atI_nums hl) ⟨rfl, rfl⟩
theorem sp_row {k mo : Nat} {mv : List (List Nat)} {wd : List Nat} (T : Tp true h) (w : Fit k mv wd) (hm : mo ≤ 300) : W__law_row.run [.loc 1, encW mv wd, .int mo] h (fun v h' => ∃ r, v = encR r ∧ r.length ≤ mo ∧ (∀ d ∈ r, d < k) ∧ Dr h h') NX := by
  have big := sl_big
  have k1 := w.k1
  have k4 := w.k4
  unfold W__law_row
  walk_at "w"
  refine W__law_draw.mono (sp_draw T (by omega) (by omega)) ?_ fun _ _ z => z
  rintro _ h1 ⟨n, rfl, hn, E1, T1⟩
  walk_at "w"
  refine ⟨by omega, by omega, new_own (Own.start T1.b) fun l2 h2 O2 => ?_⟩
  rw [Int.toNat_natCast]
  refine lc_ex O2 (fun n : Nat => .int n) (f := fun i : Nat => .int (0 + (i : Nat))) (xs := List.range n) (fun _ n => n < k) (by simp; omega) (fun _ _ _ => trivial) ?_ ?_
  · intro i _ acc h3 O3
    unfold encW
    walk_at "w"
    refine ⟨Ext.refl _, encM mv, rfl, ?_⟩
    unfold encM
    walk_at "w"
    refine ⟨_, atI_rows (i := 0) w.wf.pos, ?_⟩
    unfold encR
    walk_at "w"
    rw [nums_len, w.wf.kl 0 w.wf.pos]
    refine W__law_draw.mono (sp_draw (O3.ext.tape true T1) (by omega) (by omega)) ?_ fun _ _ z => z
    rintro _ h6 ⟨n, rfl, hn, E6, T6⟩
    exact ⟨n, rfl, by omega, E6⟩
  · intro r h3 hl hg O3
    have f3 := O3.f1
    walk_at "w"
    refine ⟨r, rfl, by simp at hl; omega, fun d hd => ?_, E1.trans O3.ext, O3.ext.tape true T1⟩
    obtain ⟨_, _, h⟩ := good_mem hl hg d hd
    exact h
end
end K92
end
section
set_option Elab.async false
set_option linter.all false
set_option maxRecDepth 100000
set_option maxHeartbeats 4000000
namespace K92
open PySem L2 PyA
local macro_rules | `(tactic| walk_at "w") => `(tactic| try simp only [w_var, w_c, w_nil, w_cons, w_star, w_tup, w_lst, w_o2, w_on, w_tb, w_chain, w_tand, w_tor, w_tnot, w_tys, w_and, w_or, w_not, w_ife, w_neg, w_call, w_callK, w_callP, w_callL, w_lam0, w_mt, w_fld, w_xf, w_prop, w_make, w_dic0, w_disp, w_pnil, w_pcons, w_lc, w_dc, w_lock, w_slock, w_lkAt, w_lkN, w_lkR, w_lkB, w_lkC, w_lkX, w_rg1, w_seq, w_skip, w_brk, w_cnt, w_exp, w_ret, w_retN, w_asg, w_if, w_par, w_par3, w_for, w_raise, w_try, w_sfld, w_nm, w_gnil, w_gcons, w_gtp, w_gix, w_o3, w_itS, w_itR1, w_itR2, w_itEn, w_itK, w_itKV, w_seqL, w_seqT, w_seqF, w_seqTF, w_enT, w_enF, w_enL, w_sub, w_mul, w_mod, w_fdiv, w_pow, w_lt, w_le, w_gt, w_ge, w_isN, w_notN, w_addI, w_addS, w_addT, w_ixT, w_ixF, w_ixL, w_lenT, w_lenF, w_lenTF, w_lenS, w_lenL, w_f1, w_i2, w_LI, w_LB, w_sort, w_listT, w_listF, w_listL, w_tupT, w_tupF, w_tupL, w_tupleF, w_lenSet, w_minD, w_tupIx, w_append, w_popAt, w_get, w_setd, w_recvL, w_itT, w_itF, w_itTF, w_itL, w_itI, w_itN, w_itB, w_itStr, w_F, w_L, w_lkm, w_lkw, w_ip1, w_ip2, w_fIntI, w_fIntB, w_fAbs, w_dkI, w_dkS, w_dkT, w_kind0, w_kindC, w_eqI, w_neI, Sum.isLeft_inl, Sum.isLeft_inr, decide_eq_true_eq, exists_false, exists_prop_of_true, w_itpL, w_itpF, w_itpT, w_itpTF, w_isNI, w_isNN, w_isNB, w_isNS, w_isNT, w_isNTF, w_isNF, w_isNL, w_isNX, wipeE, perm, List.map_cons, List.map_nil, List.getD_cons_zero, List.getD_cons_succ, List.length_cons, List.length_nil, List.replicate, List.cons_append, List.nil_append, List.append_nil, List.getElem?_cons_zero, List.getElem?_cons_succ, List.getElem?_nil, List.set_cons_zero, List.set_cons_succ, Option.some.injEq, Sum.inl.injEq, Sum.inr.injEq, PV.int.injEq, PV.bl.injEq, PV.loc.injEq, PV.tup.injEq, PV.str.injEq, PV.fls.injEq, PV.ftp.injEq, Cell.lst.injEq, Cell.dic.injEq, Cell.ins.injEq, Cell.dik.injEq, List.cons.injEq, exists_eq_left, exists_eq_left', exists_and_left, exists_and_right, exists_eq_right, exists_eq_right', exists_const, exists_eq, exists_eq', reduceCtorEq, false_and, and_false, true_and, and_true, or_false, false_or, true_or, or_true, and_self, if_true, if_false, Bool.false_eq_true, Bool.not_true, Bool.not_false, Nat.zero_add, Nat.reduceAdd, Nat.reduceSub, Nat.reduceLeDiff, Nat.reduceEqDiff, and_assoc, *])
local macro_rules | `(tactic| walk_at "n") => `(tactic| ((first | refine w_go ?_ | (dsimp only; refine w_go ?_) | (walk_at "w"; refine w_go ?_)); walk_at "w"))
local macro_rules | `(tactic| walk_at "v") => `(tactic| try simp only [w_var, w_c, w_nil, w_cons, w_star, w_tup, w_lst, w_o2, w_on, w_tb, w_chain, w_tand, w_tor, w_tnot, w_tys, w_and, w_or, w_not, w_ife, w_neg, w_call, w_callK, w_callP, w_callL, w_lam0, w_mt, w_fld, w_xf, w_prop, w_make, w_dic0, w_disp, w_pnil, w_pcons, w_lc, w_dc, w_lock, w_slock, w_lkAt, w_lkN, w_lkR, w_lkB, w_lkC, w_lkX, w_rg1, w_seq, w_skip, w_brk, w_cnt, w_exp, w_ret, w_retN, w_asg, w_if, w_par, w_par3, w_for, w_raise, w_try, w_sfld, w_nm, w_gnil, w_gcons, w_gtp, w_gix, w_o3, w_itS, w_itR1, w_itR2, w_itEn, w_itK, w_itKV, w_seqL, w_seqT, w_seqF, w_seqTF, w_enT, w_enF, w_enL, w_sub, w_mul, w_mod, w_fdiv, w_pow, w_lt, w_le, w_gt, w_ge, w_isN, w_notN, w_addI, w_addS, w_addT, w_ixT, w_ixF, w_lenT, w_lenF, w_lenTF, w_lenS, w_lenL, w_f1, w_i2, w_LI, w_LB, w_sort, w_listT, w_listF, w_listL, w_tupT, w_tupF, w_tupL, w_tupleF, w_lenSet, w_minD, w_tupIx, w_append, w_popAt, w_get, w_setd, w_recvL, w_itT, w_itF, w_itTF, w_itL, w_itI, w_itN, w_itB, w_itStr, w_F, w_L, w_lkm, w_lkw, w_ip1, w_ip2, w_fIntI, w_fIntB, w_fAbs, w_dkI, w_dkS, w_dkT, w_kind0, w_kindC, w_eqI, w_neI, Sum.isLeft_inl, Sum.isLeft_inr, decide_eq_true_eq, exists_false, exists_prop_of_true, w_itpL, w_itpF, w_itpT, w_itpTF, w_isNI, w_isNN, w_isNB, w_isNS, w_isNT, w_isNTF, w_isNF, w_isNL, w_isNX, wipeE, perm, List.map_cons, List.map_nil, List.getD_cons_zero, List.getD_cons_succ, List.length_cons, List.length_nil, List.replicate, List.cons_append, List.nil_append, List.append_nil, List.getElem?_cons_zero, List.getElem?_cons_succ, List.getElem?_nil, List.set_cons_zero, List.set_cons_succ, Option.some.injEq, Sum.inl.injEq, Sum.inr.injEq, PV.int.injEq, PV.bl.injEq, PV.loc.injEq, PV.tup.injEq, PV.str.injEq, PV.fls.injEq, PV.ftp.injEq, Cell.lst.injEq, Cell.dic.injEq, Cell.ins.injEq, Cell.dik.injEq, List.cons.injEq, exists_eq_left, exists_eq_left', exists_and_left, exists_and_right, exists_eq_right, exists_eq_right', exists_const, exists_eq, exists_eq', reduceCtorEq, false_and, and_false, true_and, and_true, or_false, false_or, true_or, or_true, and_self, if_true, if_false, Bool.false_eq_true, Bool.not_true, Bool.not_false, Nat.zero_add, Nat.reduceAdd, Nat.reduceSub, Nat.reduceLeDiff, Nat.reduceEqDiff, and_assoc, *])
section
variable {h : Hh}
theorem draws_of {e : Ev} {Q : QV} {A : AE} {i : Nat} {n : Nat} {good : Nat → Nat → Prop} {h1 : Hh} {D : Nat} (O : Own h h1 [(D, .lst [])]) (T : Tp true h) (hn : n ≤ 900)
    (step : ∀ j, j < n → ∀ h', Tp true h' → 3 ≤ h'.length → A.run (e.set i (some (.int (0 + (j : Nat))))) h' (fun v h'' => ∃ z : Nat, v = .int z ∧ good j z ∧ Ext h' h'') NX)
    (fin : ∀ (r : List Nat) h', r.length = n → (∀ j z, r[j]? = some z → good j z) → Own h h' [(D, .lst (nums r))] → Tp true h' → Q (.loc D) h') : compL (gNm i) tYs A (rngI 0 n).ok e D Q (rngI 0 n).items h1 := by
  have big := sl_big
  refine lc_ex O (fun n : Nat => .int n) (f := fun i : Nat => .int (0 + (i : Nat))) (xs := List.range n) (fun x z => good x z) (by simp; omega) (fun _ _ _ => trivial) ?_ ?_
  · intro j hj acc h3 O3
    walk_at "w"
    exact ⟨Ext.refl _, step j (by simpa using hj) h3 (O3.ext.tape true T) O3.b⟩
  · intro r h' hl hg O'
    refine fin r h' (by simpa using hl) (fun j z hz => hg j j z ?_ hz) O' (O'.ext.tape true T)
    have := (List.getElem?_eq_some_iff.mp hz).1
    have : r.length = n := by rw [hl]; simp
    have hj : j < n := by omega
    simp [hj]
theorem sp_form (T : Tp true h) : W__law_form.run [.loc 1, .int 6] h (fun v h' => ∃ k mv wd, v = encW mv wd ∧ Fit k mv wd ∧ Dr h h') NX := by
  have big := sl_big
  unfold W__law_form
  walk_at "w"
  refine W__law_draw.mono (sp_draw T (by decide) (by decide)) ?_ fun _ _ z => z
  rintro _ h1 ⟨way, rfl, hw, E1, T1⟩
  refine W__law_draw.mono (sp_draw T1 (by decide) (by decide)) ?_ fun _ _ z => z
  rintro _ h2 ⟨kk, rfl, hk, E2, T2⟩
  have ek : (1 : Int) + (kk : Nat) = ((kk + 1 : Nat) : Int) := by omega
  walk_at "w"
  refine ⟨by omega, ?_⟩
  walk_at "n"
  -- the rows, once their number is known
  have goodrows : ∀ {m : Nat} {mv : List (List Nat)} {wd : List Nat} {kw : Nat}, 2 ≤ m → m ≤ 6 → mv.length = m → wd.length = m → (∀ r ∈ mv, r.length = kk + 1 ∧ ∀ g ∈ r, g < m) → (∀ x ∈ wd, x < kw) → kw ≤ 4 → Fit (kk + 1) mv wd := by
    intro m mv wd kw h1 h2 h3 h4 h5 h6 h7
    exact fit_of (by omega) (by omega) (by omega) (by omega) (by omega) (fun r hr => (h5 r hr).1) (fun r hr g hg => by have := (h5 r hr).2 g hg; omega) fun x hx => by have := h6 x hx; omega
  split
  · refine W__law_draw.mono (sp_draw T2 (by decide) (by decide)) ?_ fun _ _ z => z
    rintro _ h3 ⟨m0, rfl, hm0, E3, T3⟩
    have em : (2 : Int) + (m0 : Nat) = ((m0 + 2 : Nat) : Int) := by omega
    walk_at "n"
    refine ⟨by omega, by omega, new_own (Own.start T3.b) fun l4 h4 O4 => ?_⟩
    rw [Int.toNat_natCast]
    refine lc_ex O4 encR (f := fun i : Nat => .int (0 + (i : Nat))) (xs := List.range (m0 + 2)) (fun _ row => row.length = kk + 1 ∧ ∀ g ∈ row, g < m0 + 2) (by simp; omega) (fun _ _ _ => trivial) ?_ ?_
    · intro i hi acc h5 O5
      have hi : i < m0 + 2 := by simpa using hi
      walk_at "w"
      refine ⟨Ext.refl _, by omega, by omega, new_own (Own.start O5.b) fun l6 h6 O6 => ?_⟩
      rw [Int.toNat_natCast]
      refine draws_of O6 (O5.ext.tape true T3) (by omega) (good := fun _ z => z < m0 + 2) ?_ ?_
      · intro j hj h7 T7 b7
        walk_at "w"
        refine W__law_draw.mono (sp_draw T7 (by decide) (by decide)) ?_ fun _ _ z => z
        rintro _ h8 ⟨z, rfl, hz, E8, T8⟩
        walk_at "w"
        have ec : ((m0 + 2 : Nat) : Int) - 1 = ((m0 + 1 : Nat) : Int) := by omega
        refine ⟨if m0 + 1 < i + z then m0 + 1 else i + z, ?_, by split <;> omega⟩
        rw [ec]
        split <;> split <;> omega
      · intro r h7 hl hg O7 T7
        have f7 := O7.f1
        walk_at "w"
        refine ⟨r, rfl, hl, fun g hg' => ?_, O7.ext⟩
        obtain ⟨j, hj⟩ := List.getElem?_of_mem hg'
        exact hg j g hj
    · intro mv h5 hl hg O5
      have T5 := O5.ext.tape true T3
      have f5 := O5.f1
      walk_at "n"
      refine ⟨by omega, by omega, new_own (Own.start O5.b) fun l6 h6 O6 => ?_⟩
      rw [Int.toNat_natCast]
      refine draws_of O6 T5 (by omega) (good := fun _ z => z < 2) ?_ ?_
      · intro j hj h7 T7 b7
        walk_at "w"
        refine W__law_draw.mono (sp_draw T7 (by decide) (by decide)) ?_ fun _ _ z => z
        rintro _ h8 ⟨z, rfl, hz, E8, T8⟩
        exact ⟨z, rfl, by omega, E8⟩
      · intro wd h7 hlw hgw O7 T7
        have f7 := O7.f1
        walk_at "w"
        refine ⟨by omega, kk + 1, mv, wd, rfl, ?_, ?_⟩
        · refine goodrows (m := m0 + 2) (kw := 2) (by omega) (by omega) (by simpa using hl) hlw (fun r hr => ?_) (fun x hx => ?_) (by omega)
          · obtain ⟨_, _, h⟩ := good_mem hl hg r hr
            exact h
          · obtain ⟨j, hj⟩ := List.getElem?_of_mem hx
            exact hgw j x hj
        · exact ⟨((E1.trans E2).trans E3).trans (O5.ext.trans O7.ext), T7⟩
  · rename_i hw0
    walk_at "n"
    split
    · refine W__law_draw.mono (sp_draw T2 (by decide) (by decide)) ?_ fun _ _ z => z
      rintro _ h3 ⟨m0, rfl, hm0, E3, T3⟩
      have em : (2 : Int) + (m0 : Nat) = ((m0 + 2 : Nat) : Int) := by omega
      walk_at "n"
      refine ⟨by omega, by omega, new_own (Own.start T3.b) fun l4 h4 O4 => ?_⟩
      rw [Int.toNat_natCast]
      refine lc_ex O4 encR (f := fun i : Nat => .int (0 + (i : Nat))) (xs := List.range (m0 + 2)) (fun _ row => row.length = kk + 1 ∧ ∀ g ∈ row, g < m0 + 2) (by simp; omega) (fun _ _ _ => trivial) ?_ ?_
      · intro i hi acc h5 O5
        have hi : i < m0 + 2 := by simpa using hi
        walk_at "w"
        refine ⟨Ext.refl _, by omega, by omega, new_own (Own.start O5.b) fun l6 h6 O6 => ?_⟩
        rw [Int.toNat_natCast]
        refine draws_of O6 (O5.ext.tape true T3) (by omega) (good := fun _ z => z < m0 + 2) ?_ ?_
        · intro j hj h7 T7 b7
          walk_at "w"
          refine W__law_draw.mono (sp_draw T7 (by decide) (by decide)) ?_ fun _ _ z => z
          rintro _ h8 ⟨z, rfl, hz, E8, T8⟩
          walk_at "w"
          refine ⟨by omega, (i + 1 + z) % (m0 + 2), ?_, Nat.mod_lt _ (by omega)⟩
          rw [Int.natCast_emod]
          congr 1
          omega
        · intro r h7 hl hg O7 T7
          have f7 := O7.f1
          walk_at "w"
          refine ⟨r, rfl, hl, fun g hg' => ?_, O7.ext⟩
          obtain ⟨j, hj⟩ := List.getElem?_of_mem hg'
          exact hg j g hj
      · intro mv h5 hl hg O5
        have T5 := O5.ext.tape true T3
        have f5 := O5.f1
        walk_at "n"
        refine ⟨by omega, by omega, new_own (Own.start O5.b) fun l6 h6 O6 => ?_⟩
        rw [Int.toNat_natCast]
        refine draws_of O6 T5 (by omega) (good := fun _ z => z < 3) ?_ ?_
        · intro j hj h7 T7 b7
          walk_at "w"
          refine W__law_draw.mono (sp_draw T7 (by decide) (by decide)) ?_ fun _ _ z => z
          rintro _ h8 ⟨z, rfl, hz, E8, T8⟩
          exact ⟨z, rfl, by omega, E8⟩
        · intro wd h7 hlw hgw O7 T7
          have f7 := O7.f1
          walk_at "w"
          refine ⟨by omega, kk + 1, mv, wd, rfl, ?_, ?_⟩
          · refine goodrows (m := m0 + 2) (kw := 3) (by omega) (by omega) (by simpa using hl) hlw (fun r hr => ?_) (fun x hx => ?_) (by omega)
            · obtain ⟨_, _, h⟩ := good_mem hl hg r hr
              exact h
            · obtain ⟨j, hj⟩ := List.getElem?_of_mem hx
              exact hgw j x hj
          · exact ⟨((E1.trans E2).trans E3).trans (O5.ext.trans O7.ext), T7⟩
    · walk_at "n"
      have fin : ∀ wn : Nat, 1 ≤ wn → wn ≤ 4 → W__law_watch.run [.loc 1, .int 6, .int ((kk + 1 : Nat) : Int), .int wn] h2 (fun v h' => ∃ k mv wd, v = encW mv wd ∧ Fit k mv wd ∧ Dr h h') NX := fun wn a b => by
        refine W__law_watch.mono (sp_watch (pl := 6) T2 (by decide) (by decide) (by omega) (by omega) a b) ?_ fun _ _ z => z
        rintro _ h3 ⟨mv, wd, rfl, F, _, _, D⟩
        exact ⟨_, mv, wd, rfl, F, ⟨(E1.trans E2).trans D.ext, D.tp⟩⟩
      split
      · exact fin 2 (by decide) (by decide)
      · exact fin 3 (by decide) (by decide)
end
end K92
end
section
set_option Elab.async false
set_option linter.all false
set_option maxRecDepth 100000
set_option maxHeartbeats 4000000
namespace K92
open PySem L2 PyA
local macro_rules | `(tactic| walk_at "w") => `(tactic| try simp only [w_var, w_c, w_nil, w_cons, w_star, w_tup, w_lst, w_o2, w_on, w_tb, w_chain, w_tand, w_tor, w_tnot, w_tys, w_and, w_or, w_not, w_ife, w_neg, w_call, w_callK, w_callP, w_callL, w_lam0, w_mt, w_fld, w_xf, w_prop, w_make, w_dic0, w_disp, w_pnil, w_pcons, w_lc, w_dc, w_lock, w_slock, w_lkAt, w_lkN, w_lkR, w_lkB, w_lkC, w_lkX, w_rg1, w_seq, w_skip, w_brk, w_cnt, w_exp, w_ret, w_retN, w_asg, w_if, w_par, w_par3, w_for, w_raise, w_try, w_sfld, w_nm, w_gnil, w_gcons, w_gtp, w_gix, w_o3, w_itS, w_itR1, w_itR2, w_itEn, w_itK, w_itKV, w_seqL, w_seqT, w_seqF, w_seqTF, w_enT, w_enF, w_enL, w_sub, w_mul, w_mod, w_fdiv, w_pow, w_lt, w_le, w_gt, w_ge, w_isN, w_notN, w_addI, w_addS, w_addT, w_ixT, w_ixF, w_ixL, w_lenT, w_lenF, w_lenTF, w_lenS, w_lenL, w_f1, w_i2, w_LI, w_LB, w_sort, w_listT, w_listF, w_listL, w_tupT, w_tupF, w_tupL, w_tupleF, w_lenSet, w_minD, w_tupIx, w_append, w_popAt, w_get, w_setd, w_recvL, w_itT, w_itF, w_itTF, w_itL, w_itI, w_itN, w_itB, w_itStr, w_F, w_L, w_lkm, w_lkw, w_ip1, w_ip2, w_fIntI, w_fIntB, w_fAbs, w_dkI, w_dkS, w_dkT, w_kind0, w_kindC, w_eqI, w_neI, Sum.isLeft_inl, Sum.isLeft_inr, decide_eq_true_eq, exists_false, exists_prop_of_true, w_itpL, w_itpF, w_itpT, w_itpTF, w_isNI, w_isNN, w_isNB, w_isNS, w_isNT, w_isNTF, w_isNF, w_isNL, w_isNX, wipeE, perm, List.map_cons, List.map_nil, List.getD_cons_zero, List.getD_cons_succ, List.length_cons, List.length_nil, List.replicate, List.cons_append, List.nil_append, List.append_nil, List.getElem?_cons_zero, List.getElem?_cons_succ, List.getElem?_nil, List.set_cons_zero, List.set_cons_succ, Option.some.injEq, Sum.inl.injEq, Sum.inr.injEq, PV.int.injEq, PV.bl.injEq, PV.loc.injEq, PV.tup.injEq, PV.str.injEq, PV.fls.injEq, PV.ftp.injEq, Cell.lst.injEq, Cell.dic.injEq, Cell.ins.injEq, Cell.dik.injEq, List.cons.injEq, exists_eq_left, exists_eq_left', exists_and_left, exists_and_right, exists_eq_right, exists_eq_right', exists_const, exists_eq, exists_eq', reduceCtorEq, false_and, and_false, true_and, and_true, or_false, false_or, true_or, or_true, and_self, if_true, if_false, Bool.false_eq_true, Bool.not_true, Bool.not_false, Nat.zero_add, Nat.reduceAdd, Nat.reduceSub, Nat.reduceLeDiff, Nat.reduceEqDiff, and_assoc, *])
local macro_rules | `(tactic| walk_at "n") => `(tactic| ((first | refine w_go ?_ | (dsimp only; refine w_go ?_) | (walk_at "w"; refine w_go ?_)); walk_at "w"))
local macro_rules | `(tactic| walk_at "v") => `(tactic| try simp only [w_var, w_c, w_nil, w_cons, w_star, w_tup, w_lst, w_o2, w_on, w_tb, w_chain, w_tand, w_tor, w_tnot, w_tys, w_and, w_or, w_not, w_ife, w_neg, w_call, w_callK, w_callP, w_callL, w_lam0, w_mt, w_fld, w_xf, w_prop, w_make, w_dic0, w_disp, w_pnil, w_pcons, w_lc, w_dc, w_lock, w_slock, w_lkAt, w_lkN, w_lkR, w_lkB, w_lkC, w_lkX, w_rg1, w_seq, w_skip, w_brk, w_cnt, w_exp, w_ret, w_retN, w_asg, w_if, w_par, w_par3, w_for, w_raise, w_try, w_sfld, w_nm, w_gnil, w_gcons, w_gtp, w_gix, w_o3, w_itS, w_itR1, w_itR2, w_itEn, w_itK, w_itKV, w_seqL, w_seqT, w_seqF, w_seqTF, w_enT, w_enF, w_enL, w_sub, w_mul, w_mod, w_fdiv, w_pow, w_lt, w_le, w_gt, w_ge, w_isN, w_notN, w_addI, w_addS, w_addT, w_ixT, w_ixF, w_lenT, w_lenF, w_lenTF, w_lenS, w_lenL, w_f1, w_i2, w_LI, w_LB, w_sort, w_listT, w_listF, w_listL, w_tupT, w_tupF, w_tupL, w_tupleF, w_lenSet, w_minD, w_tupIx, w_append, w_popAt, w_get, w_setd, w_recvL, w_itT, w_itF, w_itTF, w_itL, w_itI, w_itN, w_itB, w_itStr, w_F, w_L, w_lkm, w_lkw, w_ip1, w_ip2, w_fIntI, w_fIntB, w_fAbs, w_dkI, w_dkS, w_dkT, w_kind0, w_kindC, w_eqI, w_neI, Sum.isLeft_inl, Sum.isLeft_inr, decide_eq_true_eq, exists_false, exists_prop_of_true, w_itpL, w_itpF, w_itpT, w_itpTF, w_isNI, w_isNN, w_isNB, w_isNS, w_isNT, w_isNTF, w_isNF, w_isNL, w_isNX, wipeE, perm, List.map_cons, List.map_nil, List.getD_cons_zero, List.getD_cons_succ, List.length_cons, List.length_nil, List.replicate, List.cons_append, List.nil_append, List.append_nil, List.getElem?_cons_zero, List.getElem?_cons_succ, List.getElem?_nil, List.set_cons_zero, List.set_cons_succ, Option.some.injEq, Sum.inl.injEq, Sum.inr.injEq, PV.int.injEq, PV.bl.injEq, PV.loc.injEq, PV.tup.injEq, PV.str.injEq, PV.fls.injEq, PV.ftp.injEq, Cell.lst.injEq, Cell.dic.injEq, Cell.ins.injEq, Cell.dik.injEq, List.cons.injEq, exists_eq_left, exists_eq_left', exists_and_left, exists_and_right, exists_eq_right, exists_eq_right', exists_const, exists_eq, exists_eq', reduceCtorEq, false_and, and_false, true_and, and_true, or_false, false_or, true_or, or_true, and_self, if_true, if_false, Bool.false_eq_true, Bool.not_true, Bool.not_false, Nat.zero_add, Nat.reduceAdd, Nat.reduceSub, Nat.reduceLeDiff, Nat.reduceEqDiff, and_assoc, *])
section
variable {h : Hh}
/-- a list by its places -/
def tabV (m : Nat) (f : Nat → PV) : List PV := (List.range m).map f
theorem tabV_len {m : Nat} {f : Nat → PV} : (tabV m f).length = m := by simp [tabV]
theorem tabV_at {m : Nat} {f : Nat → PV} {p : Nat} (h : p < m) : atI (tabV m f) (p : Nat) = some (f p) := atI_map (xs := List.range m) (x := p) (by simp [h])
theorem tabV_set {m : Nat} {f f' : Nat → PV} {p : Nat} {v : PV} (h : p < m) (e : ∀ q, q < m → f' q = if q = p then v else f q) : (tabV m f).set p v = tabV m f' := by
  apply List.ext_getElem
  · simp [tabV]
  · intro i h1 h2
    simp [tabV] at h2
    rw [List.getElem_set]
    simp only [tabV, List.getElem_map, List.getElem_range]
    rw [e i h2]
    by_cases hi : i = p
    · rw [if_pos hi.symm, if_pos hi]
    · rw [if_neg (fun z => hi z.symm), if_neg hi]
/-- the first rows among some -/
def fr (wd : List Nat) (l : List Mx.RP) (v : Nat) : Option (List Nat) := (l.find? fun x => decide (wd.getD x.2 0 = v)).map (·.1)
theorem fr_snoc (wd : List Nat) (l : List Mx.RP) (x : Mx.RP) (v : Nat) : fr wd (l ++ [x]) v = if fr wd l v = none ∧ v = wd.getD x.2 0 then some x.1 else fr wd l v := by
  unfold fr
  rw [List.find?_append]
  cases hf : l.find? (fun x => decide (wd.getD x.2 0 = v)) with
  | some y => simp
  | none =>
    simp only [Option.none_or, List.find?_cons, List.find?_nil, Option.map_none]
    by_cases e : wd.getD x.2 0 = v
    · rw [decide_eq_true e, if_pos ⟨trivial, e.symm⟩]; rfl
    · rw [decide_eq_false e, if_neg (fun z => e z.2.symm)]; rfl
theorem optR_non (o : Option (List Nat)) : PyA.isNon (optR o) = o.isNone := by cases o <;> rfl
/-- a row and its place -/
def rp (x : Mx.RP) : PV := .tup [encR x.1, .int (x.2 : Nat)]
theorem sp_first_rows {k : Nat} {mv : List (List Nat)} {wd : List Nat} (b : 3 ≤ h.length) (w : Fit k mv wd) :
    W__law_first_rows.run [encW mv wd] h (fun v h' => v = .tup [.ftp ((List.range 4).map fun v => optR (Mx.firstRow mv wd v)), encR (sortN (Mx.bfs (Mx.goals mv) 0 mv.length))] ∧ Ext h h') NX := by
  have big := sl_big
  have m6 := w.m6
  have k4 := w.k4
  have wl := w.wf.wl
  have al : ∀ n, (Mx.qN (Mx.goals mv) n).length ≤ mv.length := Mx.qlen w.wf
  have plt : ∀ n x, x ∈ Mx.qN (Mx.goals mv) n → x.2 < mv.length := fun n x hx => by
    have h2 : x.2 ∈ Mx.bfs (Mx.goals mv) 0 n := by rw [← Mx.qN_places]; exact List.mem_map_of_mem hx
    exact Mx.bfs_ind (P := fun x => x < mv.length) w.wf.pos (fun p g hp hg => w.wf.lt p g hp hg) n _ h2
  have w3 : ∀ p, p < mv.length → wd.getD p 0 < 4 := fun p hp => by
    rw [List.getD_eq_getElem?_getD, List.getElem?_eq_getElem (by omega)]
    have := w.w3 _ (List.getElem_mem (l := wd) (n := p) (by omega))
    simp only [Option.getD_some]
    omega
  unfold W__law_first_rows
  walk_at "w"
  refine ⟨by omega, new_own (Own.start b) fun l1 h1 O1 => ⟨by omega, by omega, by omega, new_own O1 fun l2 h2 O2 => ⟨by omega, new_own O2 fun l3 h3 O3 => ?_⟩⟩⟩
  walk_at "n"
  refine ⟨by decide, by decide, ?_⟩
  show loopF _ _ (rngI 0 7).ok _ (rngI 0 7).items _ _
  refine for_rng (fun i e h' => ∃ (s l2 : Nat) (o4 o5 o6 o7 o8 o9 : Option PV), e = [some (encW mv wd), some (.loc l1), some (.loc l2), some (.loc l3), o4, o5, o6, o7, o8, o9] ∧ s ≤ (Mx.qN (Mx.goals mv) s).length ∧ (i ≤ s ∨ (Mx.qN (Mx.goals mv) s).length = s) ∧
    Own h h' [(l3, .lst (nums ((Mx.qN (Mx.goals mv) s).map fun x : Mx.RP => x.2))), (l2, .lst (((Mx.qN (Mx.goals mv) s).drop s).map rp)), (l1, .lst (tabV 4 fun v => optR (fr wd ((Mx.qN (Mx.goals mv) s).take s) v)))])
    ⟨0, l2, none, none, none, none, none, none, rfl, Nat.zero_le _, .inl (Nat.le_refl _), O3⟩ ?_ ?_
  · rintro i hi e h4 ⟨s, l2, o4, o5, o6, o7, o8, o9, rfl, hs, hor, O4⟩
    have f4 := O4.f3
    walk_at "w"
    refine for_inv (α := Mx.RP) (f := rp) (xs := (Mx.qN (Mx.goals mv) s).drop s) (fun d e h' => ∃ (o5 o6 : Option PV), e = [some (encW mv wd), some (.loc l1), some (.loc l2), some (.loc l3), some (.int (0 + (i : Nat))), o5, o6, o7, o8, o9] ∧
      Own h h' [(l3, .lst (nums ((Mx.qN (Mx.goals mv) s).map fun x : Mx.RP => x.2))), (l2, .lst (((Mx.qN (Mx.goals mv) s).drop s).map rp)), (l1, .lst (tabV 4 fun v => optR (fr wd ((Mx.qN (Mx.goals mv) s).take s ++ d) v)))]) ⟨o5, o6, rfl, by simpa using O4⟩ (fun d e h' ⟨_, _, _, O'⟩ => O'.f3.2.1) ?_ ?_
    · rintro d x r hd0 e h5 ⟨o5, o6, rfl, O5⟩
      have f5 := O5.f3
      have hx : x ∈ Mx.qN (Mx.goals mv) s := List.mem_of_mem_drop (by rw [hd0]; simp)
      clear hd0
      have hp := plt s x hx
      have hw := w3 x.2 hp
      unfold rp
      walk_at "w"
      refine ix_of (x := encW mv wd) (xs := [encM mv, encR wd]) (y := encR wd) rfl rfl ?_
      refine ix_of (x := encR wd) (xs := nums wd) rfl (atI_nums (by omega)) ?_
      walk_at "w"
      refine ⟨_, tabV_at hw, ?_⟩
      rw [optR_non]
      by_cases hn : fr wd ((Mx.qN (Mx.goals mv) s).take s ++ d) (wd.getD x.2 0) = none
      · simp only [hn, Option.isNone_none, if_true]
        walk_at "w"
        refine ix_of (x := encW mv wd) (xs := [encM mv, encR wd]) (y := encR wd) rfl rfl ?_
        refine ix_of (x := encR wd) (xs := nums wd) rfl (atI_nums (by omega)) ?_
        walk_at "w"
        refine ⟨_, by rw [tabV_len]; exact ixN_nat hw, put_own O5 2 rfl fun h6 O6 => ?_⟩
        rw [tabV_set hw (f' := fun v => optR (fr wd ((Mx.qN (Mx.goals mv) s).take s ++ (d ++ [x])) v))] at O6
        · exact O6
        · intro v _
          rw [← List.append_assoc, fr_snoc]
          by_cases hv : v = wd.getD x.2 0
          · subst hv; rw [if_pos ⟨hn, rfl⟩, if_pos rfl]; rfl
          · rw [if_neg (fun z => hv z.2), if_neg hv]
      · have : (fr wd ((Mx.qN (Mx.goals mv) s).take s ++ d) (wd.getD x.2 0)).isNone = false := by
          cases hc : fr wd ((Mx.qN (Mx.goals mv) s).take s ++ d) (wd.getD x.2 0) with
          | none => exact absurd hc hn
          | some _ => rfl
        simp only [this, Bool.false_eq_true, if_false]
        walk_at "w"
        have e : (tabV 4 fun v => optR (fr wd ((Mx.qN (Mx.goals mv) s).take s ++ d) v)) = tabV 4 fun v => optR (fr wd ((Mx.qN (Mx.goals mv) s).take s ++ (d ++ [x])) v) := by
          unfold tabV
          refine List.map_congr_left fun v _ => ?_
          rw [← List.append_assoc, fr_snoc]
          by_cases hv : v = wd.getD x.2 0
          · subst hv; rw [if_neg (fun z => hn z.1)]
          · rw [if_neg (fun z => hv z.2)]
        rw [← e]
        exact O5
    · rintro e h5 ⟨o5, o6, rfl, O5⟩
      rw [List.take_append_drop] at O5
      walk_at "n"
      refine ⟨by omega, new_own O5 fun l7 h7 O7 => ?_⟩
      have f7 := O7.f3
      walk_at "n"
      refine for_inv (α := Mx.RP) (f := rp) (xs := (Mx.qN (Mx.goals mv) s).drop s) (fun d e h' => ∃ (o5 o6 o8 o9 : Option PV), e = [some (encW mv wd), some (.loc l1), some (.loc l2), some (.loc l3), some (.int (0 + (i : Nat))), o5, o6, some (.loc l7), o8, o9] ∧
        Own h h' [(l7, .lst (((Mx.qN (Mx.goals mv) (s + d.length)).drop (Mx.qN (Mx.goals mv) s).length).map rp)), (l3, .lst (nums ((Mx.qN (Mx.goals mv) (s + d.length)).map fun x : Mx.RP => x.2))), (l2, .lst (((Mx.qN (Mx.goals mv) s).drop s).map rp)), (l1, .lst (tabV 4 fun v => optR (fr wd (Mx.qN (Mx.goals mv) s) v)))]) ⟨o5, o6, o8, o9, rfl, by simpa using O7⟩ (fun d e h' ⟨_, _, _, _, _, O'⟩ => O'.f3.2.2) ?_ ?_
      · rintro d x r hd0 e h8 ⟨o5, o6, o8, o9, rfl, O8⟩
        have hx : x ∈ Mx.qN (Mx.goals mv) s := List.mem_of_mem_drop (by rw [hd0]; simp)
        have hat : (Mx.qN (Mx.goals mv) s)[s + d.length]? = some x := by
          rw [← List.getElem?_drop, hd0]; simp
        clear hd0
        have hat2 : (Mx.qN (Mx.goals mv) (s + d.length))[s + d.length]? = some x := by
          obtain ⟨t, e⟩ := Mx.qN_pre (Mx.goals mv) s d.length
          rw [e, List.getElem?_append_left (List.getElem?_eq_some_iff.mp hat).1]; exact hat
        have hp := plt s x hx
        have gl : (Mx.goals mv x.2).length = k := w.wf.kl x.2 hp
        have ql : (Mx.qN (Mx.goals mv) s).length ≤ (Mx.qN (Mx.goals mv) (s + d.length)).length := by
          obtain ⟨t, e⟩ := Mx.qN_pre (Mx.goals mv) s d.length
          rw [e]; simp
        have rl : x.1.length ≤ 900 := by
          have := Mx.qN_rowlen _ _ x hx
          have := al s
          omega
        have step1 : Mx.qN (Mx.goals mv) (s + d.length + 1) = Mx.addR (Mx.qN (Mx.goals mv) (s + d.length)) x.1 0 (Mx.goals mv x.2) := by rw [Mx.qN, hat2]
        have al2 := al (s + d.length + 1)
        unfold rp
        walk_at "w"
        refine ix_of (x := encW mv wd) (xs := [encM mv, encR wd]) (y := encM mv) rfl rfl ?_
        refine ix_of (x := encM mv) (xs := mv.map encR) rfl (atI_rows hp) ?_
        refine en_row ?_
        have eadd : (d ++ [x]).length = d.length + 1 := by simp
        rw [eadd, ← Nat.add_assoc]
        have pre := Mx.addR_pre x.1 (Mx.goals mv x.2) (Mx.qN (Mx.goals mv) (s + d.length)) 0
        rw [step1] at al2 ⊢
        have hnodup : ((Mx.qN (Mx.goals mv) (s + d.length)).map fun x : Mx.RP => x.2).Nodup := by
          have := Mx.bfs_nodup (look := Mx.goals mv) (a := 0) (s + d.length)
          rw [← Mx.qN_places] at this
          exact this
        generalize Mx.qN (Mx.goals mv) (s + d.length) = q at O8 hat2 ql step1 al2 pre hnodup ⊢
        unfold nums
        refine for_enum (α := Nat) (f := fun n => .int (n : Nat)) (xs := Mx.goals mv x.2) (fun dd e h' => ∃ (o8 o9 : Option PV), e = [some (encW mv wd), some (.loc l1), some (.loc l2), some (.loc l3), some (.int (0 + (i : Nat))), some (encR x.1), some (.int (x.2 : Nat)), some (.loc l7), o8, o9] ∧
          Own h h' [(l7, .lst (((Mx.addR q x.1 0 dd).drop (Mx.qN (Mx.goals mv) s).length).map rp)), (l3, .lst (nums ((Mx.addR q x.1 0 dd).map fun x : Mx.RP => x.2))), (l2, .lst (((Mx.qN (Mx.goals mv) s).drop s).map rp)), (l1, .lst (tabV 4 fun v => optR (fr wd (Mx.qN (Mx.goals mv) s) v)))]) ⟨o8, o9, rfl, O8⟩ (fun _ _ _ _ => trivial) ?_ ?_
        · rintro dd g r2 hd0 e h9 ⟨o8, o9, rfl, O9⟩
          have hd := hd0.symm
          clear hd0
          have pre2 := Mx.addR_pre x.1 dd q 0
          have nd9 : ((Mx.addR q x.1 0 dd).map fun x : Mx.RP => x.2).Nodup := by
            have := Mx.addR_places x.1 dd q 0
            rw [show ((Mx.addR q x.1 0 dd).map fun x : Mx.RP => x.2) = (Mx.addR q x.1 0 dd).map (·.2) from rfl, this]
            exact Mx.addNew_nodup hnodup
          have len9 : (Mx.addR q x.1 0 dd).length ≤ mv.length := by
            have e1 : Mx.goals mv x.2 = dd ++ g :: r2 := hd.symm
            have : ∀ (l : List Nat) (k' : Nat) (q' : List Mx.RP), q'.length ≤ (Mx.addR q' x.1 k' l).length := fun l k' q' => by
              obtain ⟨t, e⟩ := Mx.addR_pre x.1 l q' k'
              rw [e]; simp
            have split : ∀ (l1 l2 : List Nat) (k' : Nat) (q' : List Mx.RP), (Mx.addR q' x.1 k' l1).length ≤ (Mx.addR q' x.1 k' (l1 ++ l2)).length := by
              intro l1
              induction l1 with
              | nil => intro l2 k' q'; exact this _ _ _
              | cons a l1 ih => intro l2 k' q'; exact ih _ _ _
            have := split dd (g :: r2) 0 q
            rw [← e1] at this
            omega
          have ql9 : (Mx.qN (Mx.goals mv) s).length ≤ (Mx.addR q x.1 0 dd).length := by
            obtain ⟨t, e⟩ := pre2
            rw [e]; simp; omega
          rw [Mx.addR_snoc]
          generalize Mx.addR q x.1 0 dd = q9 at O9 nd9 len9 ql9 ⊢
          clear pre2
          have f9 := O9.f3
          walk_at "w"
          have hpl := plain_nums (q9.map fun x : Mx.RP => x.2)
          refine notin_lst f9.2.1 hpl.1 (by omega) pl_int (b := decide (g ∉ q9.map fun x : Mx.RP => x.2)) (by rw [ex_nums]; simp) ?_
          walk_at "w"
          by_cases hg : g ∈ q9.map fun x : Mx.RP => x.2
          · rw [if_neg (by simpa using hg), if_pos (by simpa using hg)]
            exact O9
          · rw [if_pos (by simpa using hg), if_neg (by simpa using hg)]
            refine ⟨by rw [nums_len, List.length_map]; omega, put_own O9 1 rfl fun h10 O10 => ?_⟩
            have O10' : Own h h10 [(l7, .lst ((q9.drop (Mx.qN (Mx.goals mv) s).length).map rp)), (l3, .lst (nums ((q9.map fun x : Mx.RP => x.2) ++ [g]))), (l2, .lst (((Mx.qN (Mx.goals mv) s).drop s).map rp)), (l1, .lst (tabV 4 fun v => optR (fr wd (Mx.qN (Mx.goals mv) s) v)))] := by
              rw [nums_snoc]; exact O10
            clear O10
            have f10 := O10'.f1
            walk_at "n"
            unfold encR
            walk_at "w"
            refine ⟨by omega, by simp [nums_len]; omega, by omega, by simp; omega, put_own O10' 0 rfl fun h11 O11 => ?_⟩
            have ed : ((q9 ++ [(x.1 ++ [0 + dd.length], g)]).drop (Mx.qN (Mx.goals mv) s).length).map rp = (q9.drop (Mx.qN (Mx.goals mv) s).length).map rp ++ [.tup [.tup (nums x.1 ++ [.int (dd.length : Nat)]), .int (g : Nat)]] := by
              rw [List.drop_append_of_le_length ql9, List.map_append]
              congr 1
              simp only [List.map_cons, List.map_nil, rp, encR, Nat.zero_add, nums_snoc]
            rw [← ed, Nat.zero_add] at O11
            simp only [List.map_append (f := fun x : Mx.RP => x.2), List.map_cons, List.map_nil]
            exact O11
        · rintro e h9 ⟨o8, o9, rfl, O9⟩
          walk_at "w"
          exact O9
      · rintro e h8 ⟨o5, o6, o8, o9, rfl, O8⟩
        walk_at "n"
        have el : s + ((Mx.qN (Mx.goals mv) s).drop s).length = (Mx.qN (Mx.goals mv) s).length := by rw [List.length_drop]; omega
        rw [el] at O8
        have hle : (Mx.qN (Mx.goals mv) s).length ≤ (Mx.qN (Mx.goals mv) (Mx.qN (Mx.goals mv) s).length).length := by
          obtain ⟨t, e⟩ := Mx.qN_pre (Mx.goals mv) s ((Mx.qN (Mx.goals mv) s).length - s)
          rw [show s + ((Mx.qN (Mx.goals mv) s).length - s) = (Mx.qN (Mx.goals mv) s).length by omega] at e
          rw [e]; simp
        have htk : (Mx.qN (Mx.goals mv) (Mx.qN (Mx.goals mv) s).length).take (Mx.qN (Mx.goals mv) s).length = Mx.qN (Mx.goals mv) s := by
          obtain ⟨t, e⟩ := Mx.qN_pre (Mx.goals mv) s ((Mx.qN (Mx.goals mv) s).length - s)
          rw [show s + ((Mx.qN (Mx.goals mv) s).length - s) = (Mx.qN (Mx.goals mv) s).length by omega] at e
          rw [e, List.take_left']; rfl
        refine ⟨(Mx.qN (Mx.goals mv) s).length, hle, ?_, ?_⟩
        · by_cases hc : (Mx.qN (Mx.goals mv) s).length = s
          · right; rw [hc, hc]
          · left
            rcases hor with h | h
            · omega
            · exact absurd h hc
        · rw [htk]
          exact O8.sub (.cons₂ _ (.cons₂ _ (.cons _ (.cons₂ _ .slnil)))) |>.swap
  · rintro e h4 ⟨s, l2, o4, o5, o6, o7, o8, o9, rfl, hs, hor, O4⟩
    have hend : (Mx.qN (Mx.goals mv) s).length = s := by
      rcases hor with h | h
      · have := al s; omega
      · exact h
    have eq := Mx.q_end w.wf (n := s) (by omega)
    rw [eq] at O4 hend
    rw [List.take_of_length_le (by omega)] at O4
    have f4 := O4.f3
    walk_at "n"
    have pl : ((Mx.qAll mv).map fun x : Mx.RP => x.2) = Mx.bfs (Mx.goals mv) 0 mv.length := Mx.q_places w.wf
    rw [pl] at f4
    have e5 : nums (Mx.bfs (Mx.goals mv) 0 mv.length) = ((Mx.bfs (Mx.goals mv) 0 mv.length).map fun p => ((p : Nat) : Int)).map PV.int := by unfold nums; rw [List.map_map]; rfl
    rw [e5] at f4
    have bl := Mx.bfs_len w.wf.pos (fun p g hp hg => w.wf.lt p g hp hg) mv.length
    walk_at "w"
    refine ⟨_, rfl, by simp; omega, fun ns' hp hs => new_own O4 fun l8 h8 O8 => ?_⟩
    refine ⟨_, O8.f1, by omega, rfl, ?_, O8.ext⟩
    rw [sort_nums hp hs]
    unfold encR nums
    rw [List.map_map]; rfl
end
end K92
end
section
set_option Elab.async false
set_option linter.all false
set_option maxRecDepth 100000
set_option maxHeartbeats 4000000
namespace K92
open PySem L2 PyA
local macro_rules | `(tactic| walk_at "w") => `(tactic| try simp only [w_var, w_c, w_nil, w_cons, w_star, w_tup, w_lst, w_o2, w_on, w_tb, w_chain, w_tand, w_tor, w_tnot, w_tys, w_and, w_or, w_not, w_ife, w_neg, w_call, w_callK, w_callP, w_callL, w_lam0, w_mt, w_fld, w_xf, w_prop, w_make, w_dic0, w_disp, w_pnil, w_pcons, w_lc, w_dc, w_lock, w_slock, w_lkAt, w_lkN, w_lkR, w_lkB, w_lkC, w_lkX, w_rg1, w_seq, w_skip, w_brk, w_cnt, w_exp, w_ret, w_retN, w_asg, w_if, w_par, w_par3, w_for, w_raise, w_try, w_sfld, w_nm, w_gnil, w_gcons, w_gtp, w_gix, w_o3, w_itS, w_itR1, w_itR2, w_itEn, w_itK, w_itKV, w_seqL, w_seqT, w_seqF, w_seqTF, w_enT, w_enF, w_enL, w_sub, w_mul, w_mod, w_fdiv, w_pow, w_lt, w_le, w_gt, w_ge, w_isN, w_notN, w_addI, w_addS, w_addT, w_ixT, w_ixF, w_ixL, w_lenT, w_lenF, w_lenTF, w_lenS, w_lenL, w_f1, w_i2, w_LI, w_LB, w_sort, w_listT, w_listF, w_listL, w_tupT, w_tupF, w_tupL, w_tupleF, w_lenSet, w_minD, w_tupIx, w_append, w_popAt, w_get, w_setd, w_recvL, w_itT, w_itF, w_itTF, w_itL, w_itI, w_itN, w_itB, w_itStr, w_F, w_L, w_lkm, w_lkw, w_ip1, w_ip2, w_fIntI, w_fIntB, w_fAbs, w_dkI, w_dkS, w_dkT, w_kind0, w_kindC, w_eqI, w_neI, Sum.isLeft_inl, Sum.isLeft_inr, decide_eq_true_eq, exists_false, exists_prop_of_true, w_itpL, w_itpF, w_itpT, w_itpTF, w_isNI, w_isNN, w_isNB, w_isNS, w_isNT, w_isNTF, w_isNF, w_isNL, w_isNX, wipeE, perm, List.map_cons, List.map_nil, List.getD_cons_zero, List.getD_cons_succ, List.length_cons, List.length_nil, List.replicate, List.cons_append, List.nil_append, List.append_nil, List.getElem?_cons_zero, List.getElem?_cons_succ, List.getElem?_nil, List.set_cons_zero, List.set_cons_succ, Option.some.injEq, Sum.inl.injEq, Sum.inr.injEq, PV.int.injEq, PV.bl.injEq, PV.loc.injEq, PV.tup.injEq, PV.str.injEq, PV.fls.injEq, PV.ftp.injEq, Cell.lst.injEq, Cell.dic.injEq, Cell.ins.injEq, Cell.dik.injEq, List.cons.injEq, exists_eq_left, exists_eq_left', exists_and_left, exists_and_right, exists_eq_right, exists_eq_right', exists_const, exists_eq, exists_eq', reduceCtorEq, false_and, and_false, true_and, and_true, or_false, false_or, true_or, or_true, and_self, if_true, if_false, Bool.false_eq_true, Bool.not_true, Bool.not_false, Nat.zero_add, Nat.reduceAdd, Nat.reduceSub, Nat.reduceLeDiff, Nat.reduceEqDiff, and_assoc, *])
local macro_rules | `(tactic| walk_at "n") => `(tactic| ((first | refine w_go ?_ | (dsimp only; refine w_go ?_) | (walk_at "w"; refine w_go ?_)); walk_at "w"))
local macro_rules | `(tactic| walk_at "v") => `(tactic| try simp only [w_var, w_c, w_nil, w_cons, w_star, w_tup, w_lst, w_o2, w_on, w_tb, w_chain, w_tand, w_tor, w_tnot, w_tys, w_and, w_or, w_not, w_ife, w_neg, w_call, w_callK, w_callP, w_callL, w_lam0, w_mt, w_fld, w_xf, w_prop, w_make, w_dic0, w_disp, w_pnil, w_pcons, w_lc, w_dc, w_lock, w_slock, w_lkAt, w_lkN, w_lkR, w_lkB, w_lkC, w_lkX, w_rg1, w_seq, w_skip, w_brk, w_cnt, w_exp, w_ret, w_retN, w_asg, w_if, w_par, w_par3, w_for, w_raise, w_try, w_sfld, w_nm, w_gnil, w_gcons, w_gtp, w_gix, w_o3, w_itS, w_itR1, w_itR2, w_itEn, w_itK, w_itKV, w_seqL, w_seqT, w_seqF, w_seqTF, w_enT, w_enF, w_enL, w_sub, w_mul, w_mod, w_fdiv, w_pow, w_lt, w_le, w_gt, w_ge, w_isN, w_notN, w_addI, w_addS, w_addT, w_ixT, w_ixF, w_lenT, w_lenF, w_lenTF, w_lenS, w_lenL, w_f1, w_i2, w_LI, w_LB, w_sort, w_listT, w_listF, w_listL, w_tupT, w_tupF, w_tupL, w_tupleF, w_lenSet, w_minD, w_tupIx, w_append, w_popAt, w_get, w_setd, w_recvL, w_itT, w_itF, w_itTF, w_itL, w_itI, w_itN, w_itB, w_itStr, w_F, w_L, w_lkm, w_lkw, w_ip1, w_ip2, w_fIntI, w_fIntB, w_fAbs, w_dkI, w_dkS, w_dkT, w_kind0, w_kindC, w_eqI, w_neI, Sum.isLeft_inl, Sum.isLeft_inr, decide_eq_true_eq, exists_false, exists_prop_of_true, w_itpL, w_itpF, w_itpT, w_itpTF, w_isNI, w_isNN, w_isNB, w_isNS, w_isNT, w_isNTF, w_isNF, w_isNL, w_isNX, wipeE, perm, List.map_cons, List.map_nil, List.getD_cons_zero, List.getD_cons_succ, List.length_cons, List.length_nil, List.replicate, List.cons_append, List.nil_append, List.append_nil, List.getElem?_cons_zero, List.getElem?_cons_succ, List.getElem?_nil, List.set_cons_zero, List.set_cons_succ, Option.some.injEq, Sum.inl.injEq, Sum.inr.injEq, PV.int.injEq, PV.bl.injEq, PV.loc.injEq, PV.tup.injEq, PV.str.injEq, PV.fls.injEq, PV.ftp.injEq, Cell.lst.injEq, Cell.dic.injEq, Cell.ins.injEq, Cell.dik.injEq, List.cons.injEq, exists_eq_left, exists_eq_left', exists_and_left, exists_and_right, exists_eq_right, exists_eq_right', exists_const, exists_eq, exists_eq', reduceCtorEq, false_and, and_false, true_and, and_true, or_false, false_or, true_or, or_true, and_self, if_true, if_false, Bool.false_eq_true, Bool.not_true, Bool.not_false, Nat.zero_add, Nat.reduceAdd, Nat.reduceSub, Nat.reduceLeDiff, Nat.reduceEqDiff, and_assoc, *])
section
variable {h : Hh}
/-- counts of places, as a dict -/
def cntD (K : List Nat) (f : Nat → Nat) : List (DK × PV) := K.map fun p => (plc p, .int (f p : Nat))
theorem cntD_kind {K : List Nat} {f : Nat → Nat} {x : Nat} : PyA.Kind (cntD K f) (plc x) := kind_map fun _ _ => rfl
theorem cntD_look {K : List Nat} {f : Nat → Nat} {x : Nat} (hx : x ∈ K) : dLook (cntD K f) (plc x) = some (.int (f x : Nat)) := dLook_map (kf := plc) (fun a b _ _ e => plc_inj e) hx
theorem cntD_items {K : List Nat} {f : Nat → Nat} : (cntD K f).map (fun p => dkPV p.1) = K.map fun p => PV.int (p : Nat) := by unfold cntD; rw [List.map_map]; rfl
theorem cntD_get {K : List Nat} {f : Nat → Nat} {x : Nat} (hz : x ∉ K → f x = 0) : (dLook (cntD K f) (plc x)).getD (.int 0) = .int (f x : Nat) := by
  by_cases hx : x ∈ K
  · rw [cntD_look hx]; rfl
  · rw [dLook_none, hz hx]
    · rfl
    · intro q hq e
      obtain ⟨p, hp, rfl⟩ := List.mem_map.mp hq
      exact hx (plc_inj e ▸ hp)
theorem cntD_put {K : List Nat} {f f' : Nat → Nat} {g : Nat} (e : ∀ q, q ≠ g → f' q = f q) : dPut (cntD K f) (plc g) (.int (f' g : Nat)) = cntD (Mx.addNew K [g]) f' := by
  show _ = cntD (if g ∈ K then K else K ++ [g]) f'
  by_cases hg : g ∈ K
  · rw [if_pos hg]
    refine dPut_map (kf := plc) (vf := fun p => .int (f p : Nat)) (w := fun p => .int (f' p : Nat)) (fun a b _ _ e => plc_inj e) hg _ fun a ha => ?_
    by_cases ea : a = g
    · rw [ea, if_pos rfl]
    · rw [if_neg (fun z => ea (plc_inj z)), e a ea]
  · rw [if_neg hg, dPut_new]
    · unfold cntD
      rw [List.map_append]
      congr 1
      exact List.map_congr_left fun a ha => by rw [e a fun z => hg (z ▸ ha)]
    · intro q hq e
      obtain ⟨p, hp, rfl⟩ := List.mem_map.mp hq
      exact hg (plc_inj e ▸ hp)
theorem addNew_one (f gs : List Nat) (g : Nat) : Mx.addNew (Mx.addNew f gs) [g] = Mx.addNew f (gs ++ [g]) := by
  rw [Mx.addNew_snoc]; rfl
theorem sp_counted {k d : Nat} {mv : List (List Nat)} {wd : List Nat} (b : 3 ≤ h.length) (w : Fit k mv wd) (hd : d ≤ 300) :
    W__law_counted.run [encW mv wd, .int d] h (fun v h' => v = encR ((List.range 4).map (Mx.wcount mv wd d)) ∧ Ext h h') NX := by
  have big := sl_big
  have m6 := w.m6
  have mp := w.wf.pos
  have wl := w.wf.wl
  unfold W__law_counted
  walk_at "w"
  refine ⟨by omega, by omega, new_own (Own.start b) fun l1 h1 O1 => ?_⟩
  rw [w_dictP]
  refine ⟨l1, [(.inl 0, .int 1)], rfl, O1.f1, new_own O1.nil fun l2 h2 O2 => ?_⟩
  have e2 : ([((.inl 0 : Key), PV.int 1)].foldl (fun acc p => dPut acc (.inl p.1) p.2) []) = cntD [0] (Mx.ways mv 0) := rfl
  rw [e2] at O2
  walk_at "w"
  refine ⟨by omega, new_own O2 fun l3 h3 O3 => ?_⟩
  have O3' : Own h h3 [(l3, .lst (tab 4 fun _ => 0)), (l2, .dic false (cntD [0] (Mx.ways mv 0)))] := O3
  clear O3
  walk_at "n"
  refine ⟨by omega, by omega, ?_⟩
  rw [Int.toNat_natCast]
  refine for_rng (fun i e h' => ∃ (l2 : Nat) (K : List Nat) (o4 o5 o6 o7 : Option PV), e = [some (encW mv wd), some (.int (d : Nat)), some (.loc l2), some (.loc l3), o4, o5, o6, o7] ∧ K.Nodup ∧ (∀ p ∈ K, p < mv.length) ∧ (∀ p, p < mv.length → p ∉ K → Mx.ways mv i p = 0) ∧
    Own h h' [(l2, .dic false (cntD K (Mx.ways mv i))), (l3, .lst (tab 4 fun _ => 0))]) ⟨l2, [0], none, none, none, none, rfl, by simp, by simpa using mp, fun p _ hp => ?_, O3'.swap⟩ ?_ ?_
  · have : p ≠ 0 := by simpa using hp
    simp [Mx.ways, this]
  · rintro i hi e h4 ⟨l2, K, o4, o5, o6, o7, rfl, Knd, Klt, Kz, O4⟩
    walk_at "w"
    refine new_own O4 fun l5 h5 O5 => ?_
    have f5 := O5.f3
    walk_at "n"
    refine ⟨l2, _, f5.2.1, put_own O5 1 rfl fun h6 O6 => ?_⟩
    have O6' : Own h h6 [(l5, .dic false []), (l2, .dic true (cntD K (Mx.ways mv i))), (l3, .lst (tab 4 fun _ => 0))] := O6
    clear O6
    have f6 := O6'.f3
    walk_at "w"
    rw [cntD_items]
    refine for_inv (α := Nat) (f := fun p => .int (p : Nat)) (xs := K) (fun dd e h' => ∃ (o6 o7 : Option PV), e = [some (encW mv wd), some (.int (d : Nat)), some (.loc l2), some (.loc l3), some (.int (0 + (i : Nat))), some (.loc l5), o6, o7] ∧
      ∃ K' : List Nat, K'.Nodup ∧ (∀ p ∈ K', p < mv.length) ∧ (∀ q, q ∉ K' → (Mx.sumOf dd fun p => Mx.ways mv i p * (Mx.goals mv p).count q) = 0) ∧
      Own h h' [(l5, .dic false (cntD K' fun q => Mx.sumOf dd fun p => Mx.ways mv i p * (Mx.goals mv p).count q)), (l2, .dic true (cntD K (Mx.ways mv i))), (l3, .lst (tab 4 fun _ => 0))]) ⟨o6, o7, rfl, [], by simp, by simp, fun _ _ => rfl, O6'⟩ (fun _ _ _ _ => trivial) ?_ ?_
    · rintro dd p r hd0 e h7 ⟨o6, o7, rfl, K', nd', lt', z', O7⟩
      have hpK : p ∈ K := by rw [hd0]; simp
      clear hd0
      have hp := Klt p hpK
      walk_at "w"
      refine ix_of (x := encW mv wd) (xs := [encM mv, encR wd]) (y := encM mv) rfl rfl ?_
      refine ix_of (x := encM mv) (xs := mv.map encR) rfl (atI_rows hp) ?_
      refine itr_row ?_
      refine for_inv (α := Nat) (f := fun n => .int n) (xs := Mx.goals mv p) (fun ee e h' => ∃ (o7 : Option PV), e = [some (encW mv wd), some (.int (d : Nat)), some (.loc l2), some (.loc l3), some (.int (0 + (i : Nat))), some (.loc l5), some (.int (p : Nat)), o7] ∧
        ∃ K' : List Nat, K'.Nodup ∧ (∀ p ∈ K', p < mv.length) ∧ (∀ q, q ∉ K' → (Mx.sumOf dd fun p => Mx.ways mv i p * (Mx.goals mv p).count q) + Mx.ways mv i p * ee.count q = 0) ∧
        Own h h' [(l5, .dic false (cntD K' fun q => (Mx.sumOf dd fun p => Mx.ways mv i p * (Mx.goals mv p).count q) + Mx.ways mv i p * ee.count q)), (l2, .dic true (cntD K (Mx.ways mv i))), (l3, .lst (tab 4 fun _ => 0))]) ⟨o7, rfl, K', nd', lt', by simpa using z', by simpa using O7⟩ (fun _ _ _ _ => trivial) ?_ ?_
      · rintro ee g r2 hg0 e h8 ⟨o7, rfl, K', nd', lt', z', O8⟩
        have hg : g < mv.length := w.wf.lt p g hp (by rw [hg0]; simp)
        clear hg0
        have f8 := O8.f3
        have kl : K'.length ≤ mv.length := Mx.nodup_len nd' lt'
        walk_at "w"
        refine ⟨.int (g : Nat), plc g, rfl, cntD_kind, rfl, cntD_kind, _, cntD_look hpK, ?_⟩
        rw [cntD_get (z' g)]
        walk_at "w"
        refine ⟨cntD_kind, by simp [cntD]; omega, put_own O8 0 rfl fun h9 O9 => ?_⟩
        have ek : ((Mx.sumOf dd fun p => Mx.ways mv i p * (Mx.goals mv p).count g) + Mx.ways mv i p * ee.count g) + Mx.ways mv i p = (Mx.sumOf dd fun p => Mx.ways mv i p * (Mx.goals mv p).count g) + Mx.ways mv i p * (ee ++ [g]).count g := by
          rw [List.count_append, List.count_singleton]; simp [Nat.mul_add]; omega
        rw [← Int.natCast_add, ek, cntD_put (f' := fun q => (Mx.sumOf dd fun p => Mx.ways mv i p * (Mx.goals mv p).count q) + Mx.ways mv i p * (ee ++ [g]).count q)] at O9
        · refine ⟨Mx.addNew K' [g], Mx.addNew_nodup nd', fun q hq => ?_, fun q hq => ?_, O9⟩
          · rw [Mx.mem_addNew] at hq
            rcases hq with hq | hq
            · exact lt' q hq
            · simp at hq; rw [hq]; exact hg
          · rw [Mx.mem_addNew] at hq
            have h1 := z' q fun z => hq (.inl z)
            have h2 : ¬ g = q := fun z => hq (.inr (by simp [z]))
            rw [List.count_append, List.count_singleton]
            simp [h2]
            omega
        · intro q hq
          have h2 : ¬ g = q := fun z => hq z.symm
          rw [List.count_append, List.count_singleton]
          simp [h2]
      · rintro e h8 ⟨o7, rfl, K', nd', lt', z', O8⟩
        walk_at "w"
        have es : ∀ q, (Mx.sumOf dd fun p => Mx.ways mv i p * (Mx.goals mv p).count q) + Mx.ways mv i p * (Mx.goals mv p).count q = Mx.sumOf (dd ++ [p]) fun p => Mx.ways mv i p * (Mx.goals mv p).count q := fun q => by rw [Mx.sumOf_append, Mx.sumOf_cons, Mx.sumOf_nil]; rfl
        refine ⟨K', nd', lt', fun q hq => by rw [← es]; exact z' q hq, ?_⟩
        simp only [es] at O8
        exact O8
    · rintro e h7 ⟨o6, o7, rfl, K', nd', lt', z', O7⟩
      have f7 := O7.f3
      walk_at "w"
      refine put_own O7 1 rfl fun h8 O8 => ?_
      walk_at "n"
      have ew : ∀ q, (Mx.sumOf K fun p => Mx.ways mv i p * (Mx.goals mv p).count q) = Mx.ways mv (i + 1) q := fun q => Mx.sumOf_sub Knd Klt fun x hx hxk => by rw [Kz x hx hxk]; simp
      simp only [ew] at O8 z'
      exact ⟨K', nd', lt', fun p _ hp => z' p hp, O8.sub (.cons₂ _ (.cons _ (.cons₂ _ .slnil)))⟩
  · rintro e h4 ⟨l2, K, o4, o5, o6, o7, rfl, Knd, Klt, Kz, O4⟩
    have f4 := O4.f2
    walk_at "n"
    refine ⟨l2, _, f4.1, put_own O4 0 rfl fun h5 O5 => ?_⟩
    have O5' : Own h h5 [(l2, .dic true (cntD K (Mx.ways mv d))), (l3, .lst (tab 4 fun _ => 0))] := O5
    clear O5
    have f5 := O5'.f2
    walk_at "w"
    rw [cntD_items]
    refine for_inv (α := Nat) (f := fun p => .int (p : Nat)) (xs := K) (fun dd e h' => ∃ (o6 : Option PV), e = [some (encW mv wd), some (.int (d : Nat)), some (.loc l2), some (.loc l3), o4, o5, o6, o7] ∧
      Own h h' [(l2, .dic true (cntD K (Mx.ways mv d))), (l3, .lst (tab 4 fun v => Mx.sumOf dd fun p => if wd.getD p 0 = v then Mx.ways mv d p else 0))]) ⟨o6, rfl, O5'⟩ (fun _ _ _ _ => trivial) ?_ ?_
    · rintro dd p r hd0 e h6 ⟨o6, rfl, O6⟩
      have hpK : p ∈ K := by rw [hd0]; simp
      clear hd0
      have hp := Klt p hpK
      have f6 := O6.f2
      have w3 : wd.getD p 0 < 4 := by
        rw [List.getD_eq_getElem?_getD, List.getElem?_eq_getElem (by omega)]
        have := w.w3 _ (List.getElem_mem (l := wd) (n := p) (by omega))
        simp only [Option.getD_some]
        omega
      walk_at "w"
      refine ix_of (x := encW mv wd) (xs := [encM mv, encR wd]) (y := encR wd) rfl rfl ?_
      refine ix_of (x := encR wd) (xs := nums wd) rfl (atI_nums (by omega)) ?_
      walk_at "w"
      refine ⟨_, tab_at w3, cntD_kind, _, cntD_look hpK, ?_⟩
      walk_at "w"
      refine ix_of (x := encW mv wd) (xs := [encM mv, encR wd]) (y := encR wd) rfl rfl ?_
      refine ix_of (x := encR wd) (xs := nums wd) rfl (atI_nums (by omega)) ?_
      walk_at "w"
      refine ⟨_, by rw [tab_len]; exact ixN_nat w3, put_own O6 1 rfl fun h9 O9 => ?_⟩
      rw [← Int.natCast_add, tab_set w3 (f' := fun v => Mx.sumOf (dd ++ [p]) fun p => if wd.getD p 0 = v then Mx.ways mv d p else 0)] at O9
      · exact O9
      · intro q _
        rw [Mx.sumOf_append, Mx.sumOf_cons, Mx.sumOf_nil]
        by_cases hq : q = wd.getD p 0
        · subst hq; simp
        · rw [if_neg hq, if_neg (fun z => hq z.symm)]; simp
    · rintro e h6 ⟨o6, rfl, O6⟩
      have f6 := O6.f2
      walk_at "w"
      refine put_own O6 0 rfl fun h7 O7 => ?_
      have f7 := O7.f2
      walk_at "n"
      refine ⟨?_, O7.ext⟩
      have ew : ∀ v, (Mx.sumOf K fun p => if wd.getD p 0 = v then Mx.ways mv d p else 0) = Mx.wcount mv wd d v := fun v => Mx.sumOf_sub Knd Klt fun x hx hxk => by rw [Kz x hx hxk]; simp
      simp only [ew]
      rw [nums_tab]; rfl
end
end K92
end
section
set_option Elab.async false
set_option linter.all false
set_option maxRecDepth 100000
set_option maxHeartbeats 4000000
namespace K92
open PySem L2 PyA
local macro_rules | `(tactic| walk_at "w") => `(tactic| try simp only [w_var, w_c, w_nil, w_cons, w_star, w_tup, w_lst, w_o2, w_on, w_tb, w_chain, w_tand, w_tor, w_tnot, w_tys, w_and, w_or, w_not, w_ife, w_neg, w_call, w_callK, w_callP, w_callL, w_lam0, w_mt, w_fld, w_xf, w_prop, w_make, w_dic0, w_disp, w_pnil, w_pcons, w_lc, w_dc, w_lock, w_slock, w_lkAt, w_lkN, w_lkR, w_lkB, w_lkC, w_lkX, w_rg1, w_seq, w_skip, w_brk, w_cnt, w_exp, w_ret, w_retN, w_asg, w_if, w_par, w_par3, w_for, w_raise, w_try, w_sfld, w_nm, w_gnil, w_gcons, w_gtp, w_gix, w_o3, w_itS, w_itR1, w_itR2, w_itEn, w_itK, w_itKV, w_seqL, w_seqT, w_seqF, w_seqTF, w_enT, w_enF, w_enL, w_sub, w_mul, w_mod, w_fdiv, w_pow, w_lt, w_le, w_gt, w_ge, w_isN, w_notN, w_addI, w_addS, w_addT, w_ixT, w_ixF, w_ixL, w_lenT, w_lenF, w_lenTF, w_lenS, w_lenL, w_f1, w_i2, w_LI, w_LB, w_sort, w_listT, w_listF, w_listL, w_tupT, w_tupF, w_tupL, w_tupleF, w_lenSet, w_minD, w_tupIx, w_append, w_popAt, w_get, w_setd, w_recvL, w_itT, w_itF, w_itTF, w_itL, w_itI, w_itN, w_itB, w_itStr, w_F, w_L, w_lkm, w_lkw, w_ip1, w_ip2, w_fIntI, w_fIntB, w_fAbs, w_dkI, w_dkS, w_dkT, w_kind0, w_kindC, w_eqI, w_neI, Sum.isLeft_inl, Sum.isLeft_inr, decide_eq_true_eq, exists_false, exists_prop_of_true, w_itpL, w_itpF, w_itpT, w_itpTF, w_isNI, w_isNN, w_isNB, w_isNS, w_isNT, w_isNTF, w_isNF, w_isNL, w_isNX, wipeE, perm, List.map_cons, List.map_nil, List.getD_cons_zero, List.getD_cons_succ, List.length_cons, List.length_nil, List.replicate, List.cons_append, List.nil_append, List.append_nil, List.getElem?_cons_zero, List.getElem?_cons_succ, List.getElem?_nil, List.set_cons_zero, List.set_cons_succ, Option.some.injEq, Sum.inl.injEq, Sum.inr.injEq, PV.int.injEq, PV.bl.injEq, PV.loc.injEq, PV.tup.injEq, PV.str.injEq, PV.fls.injEq, PV.ftp.injEq, Cell.lst.injEq, Cell.dic.injEq, Cell.ins.injEq, Cell.dik.injEq, List.cons.injEq, exists_eq_left, exists_eq_left', exists_and_left, exists_and_right, exists_eq_right, exists_eq_right', exists_const, exists_eq, exists_eq', reduceCtorEq, false_and, and_false, true_and, and_true, or_false, false_or, true_or, or_true, and_self, if_true, if_false, Bool.false_eq_true, Bool.not_true, Bool.not_false, Nat.zero_add, Nat.reduceAdd, Nat.reduceSub, Nat.reduceLeDiff, Nat.reduceEqDiff, and_assoc, *])
local macro_rules | `(tactic| walk_at "n") => `(tactic| ((first | refine w_go ?_ | (dsimp only; refine w_go ?_) | (walk_at "w"; refine w_go ?_)); walk_at "w"))
local macro_rules | `(tactic| walk_at "v") => `(tactic| try simp only [w_var, w_c, w_nil, w_cons, w_star, w_tup, w_lst, w_o2, w_on, w_tb, w_chain, w_tand, w_tor, w_tnot, w_tys, w_and, w_or, w_not, w_ife, w_neg, w_call, w_callK, w_callP, w_callL, w_lam0, w_mt, w_fld, w_xf, w_prop, w_make, w_dic0, w_disp, w_pnil, w_pcons, w_lc, w_dc, w_lock, w_slock, w_lkAt, w_lkN, w_lkR, w_lkB, w_lkC, w_lkX, w_rg1, w_seq, w_skip, w_brk, w_cnt, w_exp, w_ret, w_retN, w_asg, w_if, w_par, w_par3, w_for, w_raise, w_try, w_sfld, w_nm, w_gnil, w_gcons, w_gtp, w_gix, w_o3, w_itS, w_itR1, w_itR2, w_itEn, w_itK, w_itKV, w_seqL, w_seqT, w_seqF, w_seqTF, w_enT, w_enF, w_enL, w_sub, w_mul, w_mod, w_fdiv, w_pow, w_lt, w_le, w_gt, w_ge, w_isN, w_notN, w_addI, w_addS, w_addT, w_ixT, w_ixF, w_lenT, w_lenF, w_lenTF, w_lenS, w_lenL, w_f1, w_i2, w_LI, w_LB, w_sort, w_listT, w_listF, w_listL, w_tupT, w_tupF, w_tupL, w_tupleF, w_lenSet, w_minD, w_tupIx, w_append, w_popAt, w_get, w_setd, w_recvL, w_itT, w_itF, w_itTF, w_itL, w_itI, w_itN, w_itB, w_itStr, w_F, w_L, w_lkm, w_lkw, w_ip1, w_ip2, w_fIntI, w_fIntB, w_fAbs, w_dkI, w_dkS, w_dkT, w_kind0, w_kindC, w_eqI, w_neI, Sum.isLeft_inl, Sum.isLeft_inr, decide_eq_true_eq, exists_false, exists_prop_of_true, w_itpL, w_itpF, w_itpT, w_itpTF, w_isNI, w_isNN, w_isNB, w_isNS, w_isNT, w_isNTF, w_isNF, w_isNL, w_isNX, wipeE, perm, List.map_cons, List.map_nil, List.getD_cons_zero, List.getD_cons_succ, List.length_cons, List.length_nil, List.replicate, List.cons_append, List.nil_append, List.append_nil, List.getElem?_cons_zero, List.getElem?_cons_succ, List.getElem?_nil, List.set_cons_zero, List.set_cons_succ, Option.some.injEq, Sum.inl.injEq, Sum.inr.injEq, PV.int.injEq, PV.bl.injEq, PV.loc.injEq, PV.tup.injEq, PV.str.injEq, PV.fls.injEq, PV.ftp.injEq, Cell.lst.injEq, Cell.dic.injEq, Cell.ins.injEq, Cell.dik.injEq, List.cons.injEq, exists_eq_left, exists_eq_left', exists_and_left, exists_and_right, exists_eq_right, exists_eq_right', exists_const, exists_eq, exists_eq', reduceCtorEq, false_and, and_false, true_and, and_true, or_false, false_or, true_or, or_true, and_self, if_true, if_false, Bool.false_eq_true, Bool.not_true, Bool.not_false, Nat.zero_add, Nat.reduceAdd, Nat.reduceSub, Nat.reduceLeDiff, Nat.reduceEqDiff, and_assoc, *])
section
variable {h : Hh}
theorem names_at {m : Nat} {f : Nat → Nat} {p : Nat} (h : p < m) : atI (nums ((List.range m).map f)) (p : Nat) = some (.int (f p : Nat)) := by
  rw [← nums_tab]; exact tab_at h
theorem sp_small {k : Nat} {mv : List (List Nat)} {wd : List Nat} (b : 3 ≤ h.length) (w : Fit k mv wd) :
    W__law_small.run [encW mv wd] h (fun v h' => ∃ l' tbl wds, v = .loc l' ∧ Mx.Least k tbl wds (Mx.says mv wd 0) ∧ Fit k tbl wds ∧ Own h h' [(l', watchC tbl wds)]) NX := by
  have big := sl_big
  have m6 := w.m6
  have k4 := w.k4
  have mp := w.wf.pos
  have wl := w.wf.wl
  unfold W__law_small
  walk_at "w"
  refine ix_of (x := encW mv wd) (xs := [encM mv, encR wd]) (y := encR wd) rfl rfl ?_
  refine list_of (x := encR wd) (xs := nums wd) rfl ?_
  refine new_own (Own.start b) fun l1 h1 O1 => ?_
  have e0 : nums wd = nums ((List.range mv.length).map (Mx.namesN mv wd 0)) := by
    congr 1
    apply List.ext_getElem
    · simp [wl]
    · intro i h1 h2
      simp only [List.getElem_map, List.getElem_range, Mx.namesN]
      rw [List.getD_eq_getElem?_getD, List.getElem?_eq_getElem h1]; rfl
  rw [e0] at O1
  walk_at "n"
  refine ix_of (x := encW mv wd) (xs := [encM mv, encR wd]) (y := encR wd) rfl rfl ?_
  refine itr_row ?_
  refine for_inv (α := Nat) (f := fun n => .int n) (xs := wd) (fun dd e h' => ∃ (l1 : Nat) (o2 o3 o6 : Option PV), e = [some (encW mv wd), some (.loc l1), o2, o3, none, none, o6, none, none, none] ∧
    Own h h' [(l1, .lst (nums ((List.range mv.length).map (Mx.namesN mv wd dd.length))))]) ⟨l1, none, none, none, rfl, O1⟩ (fun _ _ _ _ => trivial) ?_ ?_
  · rintro dd x r hd0 e h2 ⟨l1, o2, o3, o6, rfl, O2⟩
    clear hd0
    have f2 := O2.f1
    walk_at "w"
    rw [nums_len, List.length_map, List.length_range]
    refine ⟨by omega, by omega, new_own (Own.start O2.b) fun l4 h4 O4 => ?_⟩
    rw [Int.toNat_natCast]
    refine lc_map O4 (f := fun i : Nat => .int (0 + (i : Nat))) (xs := List.range mv.length) (fun p => encR (Mx.namesN mv wd dd.length p :: (Mx.goals mv p).map (Mx.namesN mv wd dd.length))) (by simp; omega) (fun _ _ _ => trivial) ?_ ?_
    · intro p hp acc h5 O5
      have hp : p < mv.length := by simpa using hp
      have gl := w.wf.kl p hp
      have f5 := (O2.join O5).f2
      walk_at "w"
      rw [Int.zero_add]
      refine ⟨Ext.refl _, _, names_at hp, by omega, ?_⟩
      refine ix_of (x := encW mv wd) (xs := [encM mv, encR wd]) (y := encM mv) rfl rfl ?_
      refine ix_of (x := encM mv) (xs := mv.map encR) rfl (atI_rows hp) ?_
      refine itr_row ?_
      refine new_own (Own.start O5.b) fun l6 h6 O6 => ?_
      refine lc_map O6 (f := fun n : Nat => .int n) (xs := Mx.goals mv p) (fun g => .int (Mx.namesN mv wd dd.length g : Nat)) (by omega) (fun _ _ _ => trivial) ?_ ?_
      · intro g hg acc h7 O7
        have hgl := w.wf.lt p g hp hg
        have f7 := (O2.join (O5.join O7)).f3
        walk_at "w"
        exact ⟨Ext.refl _, _, names_at hgl, rfl, Ext.refl _⟩
      · intro h7 O7
        rw [nums_map] at O7
        have f7 := O7.f1
        walk_at "w"
        refine ⟨by rw [nums_len, List.length_map]; omega, rfl, O7.ext⟩
    intro h5 O5
    have e5 : (List.range mv.length).map (fun p => encR (Mx.namesN mv wd dd.length p :: (Mx.goals mv p).map (Mx.namesN mv wd dd.length))) = ((List.range mv.length).map fun p => Mx.namesN mv wd dd.length p :: (Mx.goals mv p).map (Mx.namesN mv wd dd.length)).map encR := by rw [List.map_map]; rfl
    rw [e5] at O5
    have J5 := O2.join O5
    have f5 := J5.f2
    walk_at "n"
    refine new_own (Own.start J5.b) fun l6 h6 O6 => ?_
    refine lc_map O6 (f := encR) (xs := (List.range mv.length).map fun p => Mx.namesN mv wd dd.length p :: (Mx.goals mv p).map (Mx.namesN mv wd dd.length)) (fun r => .int (((List.range mv.length).map fun p => Mx.namesN mv wd dd.length p :: (Mx.goals mv p).map (Mx.namesN mv wd dd.length)).idxOf r : Nat)) (by simp; omega) (fun acc h' O' => (J5.join O').get (by simp)) ?_ ?_
    · intro r hr acc h7 O7
      have f7 := (J5.join O7).f2.2
      walk_at "w"
      exact ⟨Ext.refl _, index_rows f7 hr ⟨rfl, Ext.refl _⟩⟩
    · intro h7 O7
      walk_at "w"
      have e7 : ((List.range mv.length).map fun p => Mx.namesN mv wd dd.length p :: (Mx.goals mv p).map (Mx.namesN mv wd dd.length)).map (fun r => PV.int (((List.range mv.length).map fun p => Mx.namesN mv wd dd.length p :: (Mx.goals mv p).map (Mx.namesN mv wd dd.length)).idxOf r : Nat)) = nums ((List.range mv.length).map (Mx.namesN mv wd (dd ++ [x]).length)) := by
        rw [List.map_map, ← nums_map, List.length_append, List.length_singleton]; rfl
      rw [e7] at O7
      exact (J5.join O7).sub (.cons₂ _ (List.nil_sublist _))
  rintro e h2 ⟨l1, o2, o3, o6, rfl, O2⟩
  rw [wl] at O2
  have Lb := Mx.names_labels w.wf
  generalize Mx.namesN mv wd mv.length = c at O2 Lb
  have f2 := O2.f1
  walk_at "n"
  refine ⟨by omega, new_own O2 fun l3 h3 O3 => ?_⟩
  have f3 := O3.f2
  walk_at "w"
  refine ⟨_, names_at mp, by omega, new_own O3 fun l4 h4 O4 => ⟨by omega, ?_⟩⟩
  have S0 : 0 ∈ Mx.bfs (Mx.goals mv) 0 mv.length := Mx.bfs_mem _
  let look : Nat → List Nat := fun x => (Mx.goals mv (Mx.headOf c (Mx.bfs (Mx.goals mv) 0 mv.length) x)).map c
  have hlk : ∀ p, p ∈ Mx.bfs (Mx.goals mv) 0 mv.length → look (c p) = (Mx.goals mv p).map c := fun p hp => by
    have hh := Mx.headOf_ok (c := c) (H := Mx.bfs (Mx.goals mv) 0 mv.length) (x := c p) (List.mem_map_of_mem hp)
    exact Lb.look hh.1 hp hh.2
  have oin : ∀ n, ∀ x ∈ Mx.bfs look (c 0) n, x ∈ (Mx.bfs (Mx.goals mv) 0 mv.length).map c := fun n => Mx.bfs_ind (P := fun x => x ∈ (Mx.bfs (Mx.goals mv) 0 mv.length).map c) (List.mem_map_of_mem S0) (fun x g hx hg => by
    obtain ⟨p, hp, rfl⟩ := List.mem_map.mp hx
    rw [hlk p hp] at hg
    obtain ⟨q, hq, rfl⟩ := List.mem_map.mp hg
    exact List.mem_map_of_mem (Mx.bfs_all w.wf.pos (fun p g hp hg => w.wf.lt p g hp hg) hp hq)) n
  have ol : ∀ n, (Mx.bfs look (c 0) n).length ≤ mv.length := fun n => by
    have h1 := Mx.sub_len (Mx.bfs_nodup n) (oin n)
    have h2 := Mx.bfs_len w.wf.pos (fun p g hp hg => w.wf.lt p g hp hg) mv.length
    simp at h1; omega
  walk_at "n"
  refine ⟨by decide, by decide, ?_⟩
  show loopF _ _ (rngI 0 6).ok _ (rngI 0 6).items _ _
  refine for_rng (fun i e h' => ∃ (o2 o6 : Option PV) (reps : List Nat), e = [some (encW mv wd), some (.loc l1), o2, o3, some (.loc l3), some (.loc l4), o6, none, none, none] ∧ reps.map c = Mx.bfs look (c 0) i ∧ (∀ p ∈ reps, p ∈ Mx.bfs (Mx.goals mv) 0 mv.length) ∧
    Own h h' [(l4, .lst (nums (Mx.bfs look (c 0) i))), (l3, .lst (nums reps)), (l1, .lst (nums ((List.range mv.length).map c)))]) ⟨o2, o6, [0], rfl, rfl, by simpa using S0, O4⟩ ?_ ?_
  · rintro i hi e h5 ⟨o2, o6, reps, rfl, hr, hrS, O5⟩
    have f5 := O5.f3
    have rl : reps.length = (Mx.bfs look (c 0) i).length := by rw [← hr]; simp
    walk_at "w"
    rw [nums_len, Int.zero_add]
    by_cases hlt : i < reps.length
    · have hi' : ((i : Nat) : Int) < (reps.length : Nat) := by omega
      simp only [hi', if_true]
      have hp : reps.getD i 0 ∈ Mx.bfs (Mx.goals mv) 0 mv.length := by
        rw [List.getD_eq_getElem?_getD, List.getElem?_eq_getElem hlt]
        exact hrS _ (List.getElem_mem hlt)
      have hat : (Mx.bfs look (c 0) i)[i]? = some (c (reps.getD i 0)) := by
        rw [← hr, List.getElem?_map, List.getD_eq_getElem?_getD, List.getElem?_eq_getElem hlt]; rfl
      have hpl := Lb.lt hp
      refine ix_of (x := encW mv wd) (xs := [encM mv, encR wd]) (y := encM mv) rfl rfl ?_
      walk_at "w"
      refine ⟨_, atI_nums hlt, ?_⟩
      refine ix_of (x := encM mv) (xs := mv.map encR) rfl (atI_rows hpl) ?_
      refine itr_row ?_
      refine for_inv (α := Nat) (f := fun n => .int n) (xs := Mx.goals mv (reps.getD i 0)) (fun d e h' => ∃ (o6 : Option PV) (reps : List Nat), e = [some (encW mv wd), some (.loc l1), some (.int (i : Nat)), o3, some (.loc l3), some (.loc l4), o6, none, none, none] ∧ reps.map c = Mx.addNew (Mx.bfs look (c 0) i) (d.map c) ∧ (∀ p ∈ reps, p ∈ Mx.bfs (Mx.goals mv) 0 mv.length) ∧
        Own h h' [(l4, .lst (nums (Mx.addNew (Mx.bfs look (c 0) i) (d.map c)))), (l3, .lst (nums reps)), (l1, .lst (nums ((List.range mv.length).map c)))]) ⟨o6, reps, rfl, hr, hrS, O5⟩ (fun _ _ _ _ => trivial) ?_ ?_
      · rintro d g r hd0 e h6 ⟨o6, rs, rfl, hrs, hrsS, O6⟩
        have hd := hd0.symm
        clear hd0
        have hg : g ∈ Mx.bfs (Mx.goals mv) 0 mv.length := Mx.bfs_all w.wf.pos (fun p g hp hg => w.wf.lt p g hp hg) hp (by rw [← hd]; simp)
        have hgl := Lb.lt hg
        have f6 := O6.f3
        have len6 : (Mx.addNew (Mx.bfs look (c 0) i) (d.map c)).length ≤ mv.length := by
          have h1 := Mx.sub_len (m := (Mx.bfs (Mx.goals mv) 0 mv.length).map c) (Mx.addNew_nodup (gs := d.map c) (Mx.bfs_nodup (look := look) (a := c 0) i)) fun x hx => by
            rw [Mx.mem_addNew] at hx
            rcases hx with hx | hx
            · exact oin i x hx
            · obtain ⟨q, hq, rfl⟩ := List.mem_map.mp hx
              exact List.mem_map_of_mem (Mx.bfs_all w.wf.pos (fun p g hp hg => w.wf.lt p g hp hg) hp (by rw [← hd]; simp [hq]))
          have h2 := Mx.bfs_len w.wf.pos (fun p g hp hg => w.wf.lt p g hp hg) mv.length
          simp at h1; omega
        have rsl : rs.length = (Mx.addNew (Mx.bfs look (c 0) i) (d.map c)).length := by rw [← hrs]; simp
        have hpl6 := plain_nums (Mx.addNew (Mx.bfs look (c 0) i) (d.map c))
        rw [List.map_append, List.map_cons, List.map_nil, Mx.addNew_snoc]
        walk_at "w"
        refine ⟨_, names_at hgl, ?_⟩
        refine notin_lst f6.1 hpl6.1 (by omega) pl_int (b := decide (c g ∉ Mx.addNew (Mx.bfs look (c 0) i) (d.map c))) (by rw [ex_nums]; simp) ?_
        walk_at "w"
        by_cases hm : c g ∈ Mx.addNew (Mx.bfs look (c 0) i) (d.map c)
        · rw [if_neg (by simpa using hm), if_pos hm]
          exact ⟨rs, hrs, hrsS, O6⟩
        · rw [if_pos (by simpa using hm), if_neg hm]
          refine ⟨_, names_at hgl, by rw [nums_len]; omega, put_own O6 0 rfl fun h7 O7 => ?_⟩
          rw [← nums_snoc] at O7
          have f7 := O7.f2
          walk_at "n"
          refine ⟨by rw [nums_len]; omega, put_own O7 1 rfl fun h8 O8 => ?_⟩
          rw [← nums_snoc] at O8
          refine ⟨rs ++ [g], by rw [List.map_append, hrs]; rfl, fun p hp => ?_, O8⟩
          rcases List.mem_append.mp hp with hp | hp
          · exact hrsS p hp
          · simp at hp; rw [hp]; exact hg
      · rintro e h6 ⟨o6, rs, rfl, hrs, hrsS, O6⟩
        rw [← hlk _ hp, ← Mx.bfs_succ_some hat] at O6 hrs
        walk_at "w"
        exact ⟨rs, hrs, hrsS, O6⟩
    · have hi' : ¬ ((i : Nat) : Int) < (reps.length : Nat) := by omega
      simp only [hi', if_false]
      have hn : (Mx.bfs look (c 0) i)[i]? = none := by rw [List.getElem?_eq_none_iff]; omega
      rw [Mx.bfs_succ_none hn]
      walk_at "w"
      exact ⟨reps, hr, hrS, O5⟩
  · rintro e h5 ⟨o2, o6, reps, rfl, hr, hrS, O5⟩
    have QL := Mx.quot_least Lb (lookL := look) (order := Mx.bfs look (c 0) 6) (reps := reps) (N := 6) hlk rfl (by have := ol 6; omega) hr hrS
    have rl : reps.length = (Mx.bfs look (c 0) 6).length := by rw [← hr]; simp
    have ol6 := ol 6
    have oall : ∀ p g, p ∈ reps → g ∈ Mx.goals mv p → c g ∈ Mx.bfs look (c 0) 6 := fun p g hp hg => by
      have hcp : c p ∈ Mx.bfs look (c 0) 6 := by rw [← hr]; exact List.mem_map_of_mem hp
      obtain ⟨j, hj⟩ := List.getElem?_of_mem hcp
      have := (List.getElem?_eq_some_iff.mp hj).1
      exact Mx.bfs_closed (by omega) hj _ (by rw [hlk p (hrS p hp)]; exact List.mem_map_of_mem hg)
    generalize Mx.bfs look (c 0) 6 = order at O5 QL rl ol6 oall hr
    have f5 := O5.f3
    walk_at "n"
    refine new_own (Own.start O5.b) fun l6 h6 O6 => ?_
    refine lc_map O6 (f := fun n : Nat => .int n) (xs := reps) (fun p => encR ((Mx.goals mv p).map fun g => order.idxOf (c g))) (by omega) (fun acc h' O' => (O5.join O').get (by simp)) ?_ ?_
    · intro p hp acc h7 O7
      have hpl := Lb.lt (hrS p hp)
      have gl := w.wf.kl p hpl
      walk_at "w"
      refine ⟨Ext.refl _, ?_⟩
      refine ix_of (x := encW mv wd) (xs := [encM mv, encR wd]) (y := encM mv) rfl rfl ?_
      refine ix_of (x := encM mv) (xs := mv.map encR) rfl (atI_rows hpl) ?_
      refine itr_row ?_
      refine new_own (Own.start O7.b) fun l8 h8 O8 => ?_
      refine lc_map O8 (f := fun n : Nat => .int n) (xs := Mx.goals mv p) (fun g => .int (order.idxOf (c g) : Nat)) (by omega) (fun _ _ _ => trivial) ?_ ?_
      · intro g hg acc h9 O9
        have f9 := (O5.join (O7.join O9))
        have g1 := f9.get (l := l4) (c := .lst (nums order)) (by simp)
        have g2 := f9.get (l := l1) (c := .lst (nums ((List.range mv.length).map c))) (by simp)
        walk_at "w"
        exact ⟨Ext.refl _, _, names_at (w.wf.lt p g hpl hg), index_nums g1 (oall p g hp hg) ⟨rfl, Ext.refl _⟩⟩
      · intro h9 O9
        rw [nums_map] at O9
        have f9 := O9.f1
        walk_at "w"
        exact ⟨rfl, O9.ext⟩
    intro h7 O7
    have J7 := O5.join O7
    have f7 := J7.f3
    walk_at "n"
    refine new_own (Own.start J7.b) fun l8 h8 O8 => ?_
    refine lc_map O8 (f := fun n : Nat => .int n) (xs := reps) (fun p => .int (wd.getD p 0 : Nat)) (by omega) (fun acc h' O' => (J7.join O').get (by simp)) ?_ ?_
    · intro p hp acc h9 O9
      have hpl := Lb.lt (hrS p hp)
      walk_at "w"
      refine ⟨Ext.refl _, ?_⟩
      refine ix_of (x := encW mv wd) (xs := [encM mv, encR wd]) (y := encR wd) rfl rfl ?_
      exact ix_of (x := encR wd) (xs := nums wd) rfl (atI_nums (by omega)) ⟨rfl, Ext.refl _⟩
    intro h9 O9
    have J9 := J7.join O9
    have e8 : reps.map (fun p => PV.int (wd.getD p 0 : Nat)) = nums (reps.map fun p => wd.getD p 0) := nums_map _ _
    have e6 : reps.map (fun p => encR ((Mx.goals mv p).map fun g => order.idxOf (c g))) = (reps.map fun p => (Mx.goals mv p).map fun g => order.idxOf (c g)).map encR := by rw [List.map_map]; rfl
    rw [e8, e6] at J9
    have F : Fit k (reps.map fun p => (Mx.goals mv p).map fun g => order.idxOf (c g)) (reps.map fun p => wd.getD p 0) := ⟨QL.wf, by simp; omega, w.k1, w.k4, fun x hx => by
      obtain ⟨p, hp, rfl⟩ := List.mem_map.mp hx
      have hpl := Lb.lt (hrS p hp)
      rw [List.getD_eq_getElem?_getD, List.getElem?_eq_getElem (by omega)]
      exact w.w3 _ (List.getElem_mem _)⟩
    generalize (reps.map fun p => (Mx.goals mv p).map fun g => order.idxOf (c g)) = tbl at J9 F QL
    generalize (reps.map fun p => wd.getD p 0) = wds at J9 F QL
    have b6 : 3 ≤ l6 := by have := J9.ge (l := l6) (c := .lst (tbl.map encR)) (by simp); omega
    have b8 : 3 ≤ l8 := by have := J9.ge (l := l8) (c := .lst (nums wds)) (by simp); omega
    have sf : SeqV h9 (.loc l6) (tbl.map encR) := ⟨b6, J9.get (by simp)⟩
    have sw : SeqV h9 (.loc l8) (nums wds) := ⟨b8, J9.get (by simp)⟩
    refine make_watch J9.b sf nof_loc (fun y hy => ?_) (rows_tup tbl) F sw nof_loc fun l' h10 O10 => ?_
    · obtain ⟨r, _, rfl⟩ := List.mem_map.mp hy
      exact nof_tup
    · exact ⟨tbl, wds, QL, F, (J9.join O10).sub (.cons₂ _ (List.nil_sublist _))⟩
end
end K92
end
section
set_option Elab.async false
set_option linter.all false
set_option maxRecDepth 100000
set_option maxHeartbeats 4000000
namespace K92
open PySem L2 PyA
local macro_rules | `(tactic| walk_at "w") => `(tactic| try simp only [w_var, w_c, w_nil, w_cons, w_star, w_tup, w_lst, w_o2, w_on, w_tb, w_chain, w_tand, w_tor, w_tnot, w_tys, w_and, w_or, w_not, w_ife, w_neg, w_call, w_callK, w_callP, w_callL, w_lam0, w_mt, w_fld, w_xf, w_prop, w_make, w_dic0, w_disp, w_pnil, w_pcons, w_lc, w_dc, w_lock, w_slock, w_lkAt, w_lkN, w_lkR, w_lkB, w_lkC, w_lkX, w_rg1, w_seq, w_skip, w_brk, w_cnt, w_exp, w_ret, w_retN, w_asg, w_if, w_par, w_par3, w_for, w_raise, w_try, w_sfld, w_nm, w_gnil, w_gcons, w_gtp, w_gix, w_o3, w_itS, w_itR1, w_itR2, w_itEn, w_itK, w_itKV, w_seqL, w_seqT, w_seqF, w_seqTF, w_enT, w_enF, w_enL, w_sub, w_mul, w_mod, w_fdiv, w_pow, w_lt, w_le, w_gt, w_ge, w_isN, w_notN, w_addI, w_addS, w_addT, w_ixT, w_ixF, w_ixL, w_lenT, w_lenF, w_lenTF, w_lenS, w_lenL, w_f1, w_i2, w_LI, w_LB, w_sort, w_listT, w_listF, w_listL, w_tupT, w_tupF, w_tupL, w_tupleF, w_lenSet, w_minD, w_tupIx, w_append, w_popAt, w_get, w_setd, w_recvL, w_itT, w_itF, w_itTF, w_itL, w_itI, w_itN, w_itB, w_itStr, w_F, w_L, w_lkm, w_lkw, w_ip1, w_ip2, w_fIntI, w_fIntB, w_fAbs, w_dkI, w_dkS, w_dkT, w_kind0, w_kindC, w_eqI, w_neI, Sum.isLeft_inl, Sum.isLeft_inr, decide_eq_true_eq, exists_false, exists_prop_of_true, w_itpL, w_itpF, w_itpT, w_itpTF, w_isNI, w_isNN, w_isNB, w_isNS, w_isNT, w_isNTF, w_isNF, w_isNL, w_isNX, wipeE, perm, List.map_cons, List.map_nil, List.getD_cons_zero, List.getD_cons_succ, List.length_cons, List.length_nil, List.replicate, List.cons_append, List.nil_append, List.append_nil, List.getElem?_cons_zero, List.getElem?_cons_succ, List.getElem?_nil, List.set_cons_zero, List.set_cons_succ, Option.some.injEq, Sum.inl.injEq, Sum.inr.injEq, PV.int.injEq, PV.bl.injEq, PV.loc.injEq, PV.tup.injEq, PV.str.injEq, PV.fls.injEq, PV.ftp.injEq, Cell.lst.injEq, Cell.dic.injEq, Cell.ins.injEq, Cell.dik.injEq, List.cons.injEq, exists_eq_left, exists_eq_left', exists_and_left, exists_and_right, exists_eq_right, exists_eq_right', exists_const, exists_eq, exists_eq', reduceCtorEq, false_and, and_false, true_and, and_true, or_false, false_or, true_or, or_true, and_self, if_true, if_false, Bool.false_eq_true, Bool.not_true, Bool.not_false, Nat.zero_add, Nat.reduceAdd, Nat.reduceSub, Nat.reduceLeDiff, Nat.reduceEqDiff, and_assoc, *])
local macro_rules | `(tactic| walk_at "n") => `(tactic| ((first | refine w_go ?_ | (dsimp only; refine w_go ?_) | (walk_at "w"; refine w_go ?_)); walk_at "w"))
local macro_rules | `(tactic| walk_at "v") => `(tactic| try simp only [w_var, w_c, w_nil, w_cons, w_star, w_tup, w_lst, w_o2, w_on, w_tb, w_chain, w_tand, w_tor, w_tnot, w_tys, w_and, w_or, w_not, w_ife, w_neg, w_call, w_callK, w_callP, w_callL, w_lam0, w_mt, w_fld, w_xf, w_prop, w_make, w_dic0, w_disp, w_pnil, w_pcons, w_lc, w_dc, w_lock, w_slock, w_lkAt, w_lkN, w_lkR, w_lkB, w_lkC, w_lkX, w_rg1, w_seq, w_skip, w_brk, w_cnt, w_exp, w_ret, w_retN, w_asg, w_if, w_par, w_par3, w_for, w_raise, w_try, w_sfld, w_nm, w_gnil, w_gcons, w_gtp, w_gix, w_o3, w_itS, w_itR1, w_itR2, w_itEn, w_itK, w_itKV, w_seqL, w_seqT, w_seqF, w_seqTF, w_enT, w_enF, w_enL, w_sub, w_mul, w_mod, w_fdiv, w_pow, w_lt, w_le, w_gt, w_ge, w_isN, w_notN, w_addI, w_addS, w_addT, w_ixT, w_ixF, w_lenT, w_lenF, w_lenTF, w_lenS, w_lenL, w_f1, w_i2, w_LI, w_LB, w_sort, w_listT, w_listF, w_listL, w_tupT, w_tupF, w_tupL, w_tupleF, w_lenSet, w_minD, w_tupIx, w_append, w_popAt, w_get, w_setd, w_recvL, w_itT, w_itF, w_itTF, w_itL, w_itI, w_itN, w_itB, w_itStr, w_F, w_L, w_lkm, w_lkw, w_ip1, w_ip2, w_fIntI, w_fIntB, w_fAbs, w_dkI, w_dkS, w_dkT, w_kind0, w_kindC, w_eqI, w_neI, Sum.isLeft_inl, Sum.isLeft_inr, decide_eq_true_eq, exists_false, exists_prop_of_true, w_itpL, w_itpF, w_itpT, w_itpTF, w_isNI, w_isNN, w_isNB, w_isNS, w_isNT, w_isNTF, w_isNF, w_isNL, w_isNX, wipeE, perm, List.map_cons, List.map_nil, List.getD_cons_zero, List.getD_cons_succ, List.length_cons, List.length_nil, List.replicate, List.cons_append, List.nil_append, List.append_nil, List.getElem?_cons_zero, List.getElem?_cons_succ, List.getElem?_nil, List.set_cons_zero, List.set_cons_succ, Option.some.injEq, Sum.inl.injEq, Sum.inr.injEq, PV.int.injEq, PV.bl.injEq, PV.loc.injEq, PV.tup.injEq, PV.str.injEq, PV.fls.injEq, PV.ftp.injEq, Cell.lst.injEq, Cell.dic.injEq, Cell.ins.injEq, Cell.dik.injEq, List.cons.injEq, exists_eq_left, exists_eq_left', exists_and_left, exists_and_right, exists_eq_right, exists_eq_right', exists_const, exists_eq, exists_eq', reduceCtorEq, false_and, and_false, true_and, and_true, or_false, false_or, true_or, or_true, and_self, if_true, if_false, Bool.false_eq_true, Bool.not_true, Bool.not_false, Nat.zero_add, Nat.reduceAdd, Nat.reduceSub, Nat.reduceLeDiff, Nat.reduceEqDiff, and_assoc, *])
local macro_rules | `(tactic| walk_at "kt") => `(tactic| (unfold kt; repeat (first | exact List.Mem.head _ | apply List.Mem.tail)))
section
variable {h : Hh}
/-! ### errors -/
theorem sp_caught {Φ : PhiT} {f : PV} {F : AF} (hF : Φ f F) {P : QV} (q : F.run [] h (fun _ h' => P .non h') (fun x h' => (x.c, true) ∈ et_WatchError ∧ P (exnPV x) h')) : (W__law_caught Φ).run [f] h P NX := by
  unfold W__law_caught
  walk_at "w"
  walk_at "n"
  refine ⟨F, hF, F.mono q (fun v h' q' => ?_) fun x h' ⟨m, q'⟩ => ⟨true, m, ?_⟩⟩
  · walk_at "n"
  · walk_at "w"
    walk_at "n"
theorem sp_pick {l : Nat} {xs : List PV} (T : Tp true h) (hl : h[l]? = some (.lst xs)) (b : 3 ≤ l) (h1 : 0 < xs.length) (h2 : xs.length ≤ 900) : W__law_pick.run [.loc 1, .loc l] h (fun v h' => v ∈ xs ∧ Dr h h') NX := by
  unfold W__law_pick
  walk_at "v"
  refine W__law_draw.mono (sp_draw T (by omega) (by omega)) ?_ fun _ _ z => z
  rintro _ h3 ⟨r, rfl, hr, E, T3⟩
  have hr' : r < xs.length := by omega
  refine .inl ⟨xs, r, xs[r], E.get hl b, rfl, ?_, List.getElem_mem hr', E, T3⟩
  have := atI_map (f := id) (xs := xs) (i := r) (x := xs[r]) (List.getElem?_eq_getElem hr')
  simpa using this
section
variable {x : PV} (hx : PyA.Ord x)
include hx
theorem no_word_rows {R : QX} (q : R ⟨"NoWatch", ["part"], [.non]⟩ h) : W_word_rows.run [x] h (fun _ _ => False) R := by
  unfold W_word_rows
  walk_at "w"
  exact W_need_watch.mono (sp_need_watch_no hx q) (fun _ _ z => z.elim) fun _ _ z => z
theorem no_places_reached {R : QX} (q : R ⟨"NoWatch", ["part"], [.non]⟩ h) : W_places_reached.run [x] h (fun _ _ => False) R := by
  unfold W_places_reached
  walk_at "w"
  exact W_need_watch.mono (sp_need_watch_no hx q) (fun _ _ z => z.elim) fun _ _ z => z
theorem no_least_watch {R : QX} (q : R ⟨"NoWatch", ["part"], [.non]⟩ h) : W_least_watch.run [x] h (fun _ _ => False) R := by
  unfold W_least_watch
  walk_at "w"
  exact W_need_watch.mono (sp_need_watch_no hx q) (fun _ _ z => z.elim) fun _ _ z => z
theorem no_word_counts {y : PV} {R : QX} (q : R ⟨"NoWatch", ["part"], [.non]⟩ h) : W_word_counts.run [x, y] h (fun _ _ => False) R := by
  unfold W_word_counts
  walk_at "w"
  exact W_need_watch.mono (sp_need_watch_no hx q) (fun _ _ z => z.elim) fun _ _ z => z
end
theorem bad_word_counts {l : Nat} {y : PV} {mv : List (List Nat)} {wd : List Nat} {R : QX} (iw : IsW h l mv wd) (hy : PyA.Ord y) (hb : btw y 0 300 = false) (q : R ⟨"BadNumber", ["part"], [.str "length"]⟩ h) : W_word_counts.run [.loc l, y] h (fun _ _ => False) R := by
  unfold W_word_counts
  walk_at "w"
  refine W_need_watch.mono (sp_need_watch iw) ?_ fun _ _ z => z.elim
  rintro _ _ ⟨rfl, rfl⟩
  walk_at "n"
  refine W_is_between.mono (sp_is_between hy) ?_ fun _ _ z => z.elim
  rintro _ _ ⟨rfl, rfl⟩
  walk_at "w"
theorem sortN_id {l : List Nat} (h : l.Pairwise (· ≤ ·)) : sortN l = l := (sortN_perm l).eq_of_pairwise (fun a b _ _ h1 h2 => Nat.le_antisymm h1 h2) (sortN_sorted l) h
end
end K92
end
section
set_option Elab.async false
set_option linter.all false
set_option maxRecDepth 100000
set_option maxHeartbeats 4000000
namespace K92
open PySem L2 PyA
local macro_rules | `(tactic| walk_at "w") => `(tactic| try simp only [w_var, w_c, w_nil, w_cons, w_star, w_tup, w_lst, w_o2, w_on, w_tb, w_chain, w_tand, w_tor, w_tnot, w_tys, w_and, w_or, w_not, w_ife, w_neg, w_call, w_callK, w_callP, w_callL, w_lam0, w_mt, w_fld, w_xf, w_prop, w_make, w_dic0, w_disp, w_pnil, w_pcons, w_lc, w_dc, w_lock, w_slock, w_lkAt, w_lkN, w_lkR, w_lkB, w_lkC, w_lkX, w_rg1, w_seq, w_skip, w_brk, w_cnt, w_exp, w_ret, w_retN, w_asg, w_if, w_par, w_par3, w_for, w_raise, w_try, w_sfld, w_nm, w_gnil, w_gcons, w_gtp, w_gix, w_o3, w_itS, w_itR1, w_itR2, w_itEn, w_itK, w_itKV, w_seqL, w_seqT, w_seqF, w_seqTF, w_enT, w_enF, w_enL, w_sub, w_mul, w_mod, w_fdiv, w_pow, w_lt, w_le, w_gt, w_ge, w_isN, w_notN, w_addI, w_addS, w_addT, w_ixT, w_ixF, w_ixL, w_lenT, w_lenF, w_lenTF, w_lenS, w_lenL, w_f1, w_i2, w_LI, w_LB, w_sort, w_listT, w_listF, w_listL, w_tupT, w_tupF, w_tupL, w_tupleF, w_lenSet, w_minD, w_tupIx, w_append, w_popAt, w_get, w_setd, w_recvL, w_itT, w_itF, w_itTF, w_itL, w_itI, w_itN, w_itB, w_itStr, w_F, w_L, w_lkm, w_lkw, w_ip1, w_ip2, w_fIntI, w_fIntB, w_fAbs, w_dkI, w_dkS, w_dkT, w_kind0, w_kindC, w_eqI, w_neI, Sum.isLeft_inl, Sum.isLeft_inr, decide_eq_true_eq, exists_false, exists_prop_of_true, w_itpL, w_itpF, w_itpT, w_itpTF, w_isNI, w_isNN, w_isNB, w_isNS, w_isNT, w_isNTF, w_isNF, w_isNL, w_isNX, wipeE, perm, List.map_cons, List.map_nil, List.getD_cons_zero, List.getD_cons_succ, List.length_cons, List.length_nil, List.replicate, List.cons_append, List.nil_append, List.append_nil, List.getElem?_cons_zero, List.getElem?_cons_succ, List.getElem?_nil, List.set_cons_zero, List.set_cons_succ, Option.some.injEq, Sum.inl.injEq, Sum.inr.injEq, PV.int.injEq, PV.bl.injEq, PV.loc.injEq, PV.tup.injEq, PV.str.injEq, PV.fls.injEq, PV.ftp.injEq, Cell.lst.injEq, Cell.dic.injEq, Cell.ins.injEq, Cell.dik.injEq, List.cons.injEq, exists_eq_left, exists_eq_left', exists_and_left, exists_and_right, exists_eq_right, exists_eq_right', exists_const, exists_eq, exists_eq', reduceCtorEq, false_and, and_false, true_and, and_true, or_false, false_or, true_or, or_true, and_self, if_true, if_false, Bool.false_eq_true, Bool.not_true, Bool.not_false, Nat.zero_add, Nat.reduceAdd, Nat.reduceSub, Nat.reduceLeDiff, Nat.reduceEqDiff, and_assoc, *])
local macro_rules | `(tactic| walk_at "n") => `(tactic| ((first | refine w_go ?_ | (dsimp only; refine w_go ?_) | (walk_at "w"; refine w_go ?_)); walk_at "w"))
local macro_rules | `(tactic| walk_at "v") => `(tactic| try simp only [w_var, w_c, w_nil, w_cons, w_star, w_tup, w_lst, w_o2, w_on, w_tb, w_chain, w_tand, w_tor, w_tnot, w_tys, w_and, w_or, w_not, w_ife, w_neg, w_call, w_callK, w_callP, w_callL, w_lam0, w_mt, w_fld, w_xf, w_prop, w_make, w_dic0, w_disp, w_pnil, w_pcons, w_lc, w_dc, w_lock, w_slock, w_lkAt, w_lkN, w_lkR, w_lkB, w_lkC, w_lkX, w_rg1, w_seq, w_skip, w_brk, w_cnt, w_exp, w_ret, w_retN, w_asg, w_if, w_par, w_par3, w_for, w_raise, w_try, w_sfld, w_nm, w_gnil, w_gcons, w_gtp, w_gix, w_o3, w_itS, w_itR1, w_itR2, w_itEn, w_itK, w_itKV, w_seqL, w_seqT, w_seqF, w_seqTF, w_enT, w_enF, w_enL, w_sub, w_mul, w_mod, w_fdiv, w_pow, w_lt, w_le, w_gt, w_ge, w_isN, w_notN, w_addI, w_addS, w_addT, w_ixT, w_ixF, w_lenT, w_lenF, w_lenTF, w_lenS, w_lenL, w_f1, w_i2, w_LI, w_LB, w_sort, w_listT, w_listF, w_listL, w_tupT, w_tupF, w_tupL, w_tupleF, w_lenSet, w_minD, w_tupIx, w_append, w_popAt, w_get, w_setd, w_recvL, w_itT, w_itF, w_itTF, w_itL, w_itI, w_itN, w_itB, w_itStr, w_F, w_L, w_lkm, w_lkw, w_ip1, w_ip2, w_fIntI, w_fIntB, w_fAbs, w_dkI, w_dkS, w_dkT, w_kind0, w_kindC, w_eqI, w_neI, Sum.isLeft_inl, Sum.isLeft_inr, decide_eq_true_eq, exists_false, exists_prop_of_true, w_itpL, w_itpF, w_itpT, w_itpTF, w_isNI, w_isNN, w_isNB, w_isNS, w_isNT, w_isNTF, w_isNF, w_isNL, w_isNX, wipeE, perm, List.map_cons, List.map_nil, List.getD_cons_zero, List.getD_cons_succ, List.length_cons, List.length_nil, List.replicate, List.cons_append, List.nil_append, List.append_nil, List.getElem?_cons_zero, List.getElem?_cons_succ, List.getElem?_nil, List.set_cons_zero, List.set_cons_succ, Option.some.injEq, Sum.inl.injEq, Sum.inr.injEq, PV.int.injEq, PV.bl.injEq, PV.loc.injEq, PV.tup.injEq, PV.str.injEq, PV.fls.injEq, PV.ftp.injEq, Cell.lst.injEq, Cell.dic.injEq, Cell.ins.injEq, Cell.dik.injEq, List.cons.injEq, exists_eq_left, exists_eq_left', exists_and_left, exists_and_right, exists_eq_right, exists_eq_right', exists_const, exists_eq, exists_eq', reduceCtorEq, false_and, and_false, true_and, and_true, or_false, false_or, true_or, or_true, and_self, if_true, if_false, Bool.false_eq_true, Bool.not_true, Bool.not_false, Nat.zero_add, Nat.reduceAdd, Nat.reduceSub, Nat.reduceLeDiff, Nat.reduceEqDiff, and_assoc, *])
local macro_rules | `(tactic| walk_at "kt") => `(tactic| (unfold kt; repeat (first | exact List.Mem.head _ | apply List.Mem.tail)))
section
variable {h : Hh}
def rowsOf (mv : List (List Nat)) (wd : List Nat) : List PV := (List.range 4).map fun v => optR (Mx.firstRow mv wd v)
theorem pl_optR (o : Option (List Nat)) : Pl (optR o) ∧ bare (optR o) = optR o ∧ pdep (optR o) ≤ 2 := by
  cases o with
  | none => exact ⟨pl_non, rfl, by simp [optR, pdep]⟩
  | some r =>
    have := plain_nums r
    exact ⟨pl_row r, bare_row r, by simp [optR, encR, pdep]; omega⟩
theorem pl_rowsOf (mv : List (List Nat)) (wd : List Nat) : plainAll (rowsOf mv wd) = true ∧ pdeps (rowsOf mv wd) ≤ 2 ∧ bares (rowsOf mv wd) = rowsOf mv wd := by
  have := fun v => pl_optR (Mx.firstRow mv wd v)
  have e : rowsOf mv wd = [optR (Mx.firstRow mv wd 0), optR (Mx.firstRow mv wd 1), optR (Mx.firstRow mv wd 2), optR (Mx.firstRow mv wd 3)] := rfl
  rw [e]
  simp only [plainAll, pdeps, bares, (this 0).1.1, (this 1).1.1, (this 2).1.1, (this 3).1.1, (this 0).2.1, (this 1).2.1, (this 2).2.1, (this 3).2.1]
  have h0 := (this 0).2.2
  have h1 := (this 1).2.2
  have h2 := (this 2).2.2
  have h3 := (this 3).2.2
  exact ⟨by simp, by omega, by simp⟩
theorem ne_same {x y : PV} {Q : QV} (hx : Pl x) (hy : Pl y) (e : bare x = bare y) (q : Q (.bl false) h) : oNe.run x y h Q := ne_pl hx hy (b := false) (by simp [e]) q
theorem ne_rows {mv mv2 : List (List Nat)} {wd wd2 : List Nat} {Q : QV} (e : rowsOf mv wd = rowsOf mv2 wd2) (q : Q (.bl false) h) : oNe.run (.tup (rowsOf mv wd)) (.ftp (rowsOf mv2 wd2)) h Q := by
  have h1 := pl_rowsOf mv wd
  have h2 := pl_rowsOf mv2 wd2
  refine ne_same ⟨by simpa [PyA.plain] using h1.1, by simp [pdep]; omega⟩ ⟨by simpa [PyA.plain] using h2.1, by simp [pdep]; omega⟩ ?_ q
  simp only [bare, h1.2.2, h2.2.2, e]
theorem ne_row {r s : List Nat} {Q : QV} (e : r = s) (q : Q (.bl false) h) : oNe.run (encR r) (encR s) h Q := ne_same (pl_row r) (pl_row s) (by rw [e]) q
theorem ne_watch {l l2 : Nat} {mv mv2 : List (List Nat)} {wd wd2 : List Nat} {Q : QV} (w : IsW h l mv wd) (w2 : IsW h l2 mv2 wd2) (e : mv = mv2 ∧ wd = wd2) (q : Q (.bl false) h) : (oNeOwn "Watch" W_Watch_eq).run (.loc l) (.loc l2) h Q := by
  refine ⟨l, _, _, l2, _, _, rfl, rfl, w.2, w2.2, W_Watch_eq.mono (sp_Watch_eq w w2 (b := true) (by simp [e])) ?_ fun _ _ z => z⟩
  rintro _ _ ⟨rfl, rfl⟩
  exact ⟨true, rfl, q⟩
theorem eq_watch {l l2 : Nat} {mv mv2 : List (List Nat)} {wd wd2 : List Nat} {Q : QV} (w : IsW h l mv wd) (w2 : IsW h l2 mv2 wd2) (e : mv = mv2 ∧ wd = wd2) (q : Q (.bl true) h) : (oEqOwn "Watch" W_Watch_eq).run (.loc l) (.loc l2) h Q := by
  refine ⟨l, _, _, l2, _, _, rfl, rfl, w.2, w2.2, W_Watch_eq.mono (sp_Watch_eq w w2 (b := true) (by simp [e])) ?_ fun _ _ z => z⟩
  rintro _ _ ⟨rfl, rfl⟩
  exact ⟨true, rfl, q⟩
theorem least_congr {k : Nat} {mv : List (List Nat)} {wd : List Nat} {f g : List Nat → Nat} (L : Mx.Least k mv wd f) (e : ∀ r, Mx.Dig k r → f r = g r) : Mx.Least k mv wd g := ⟨L.wf, fun r hr => (L.says r hr).trans (e r hr), L.num, L.min⟩
theorem own_watch {h0 h : Hh} {l : Nat} {mv : List (List Nat)} {wd : List Nat} (O : Own h0 h [(l, watchC mv wd)]) : IsW h l mv wd := ⟨by have := O.ge1; have := O.base; omega, O.f1⟩
theorem fit_falls : Fit 2 [[0, 1], [0, 2], [2, 2]] [0, 0, 1] := fit_of (by decide) (by decide) (by decide) (by decide) (by decide) (by decide) (by decide) (by decide)
theorem fit_last : Fit 2 [[0, 1], [0, 1]] [0, 1] := fit_of (by decide) (by decide) (by decide) (by decide) (by decide) (by decide) (by decide) (by decide)
theorem fit_three : Fit 2 [[1, 2], [3, 3], [3, 3], [3, 3]] [0, 0, 0, 1] := fit_of (by decide) (by decide) (by decide) (by decide) (by decide) (by decide) (by decide) (by decide)
theorem fit_far : Fit 2 [[0, 0], [0, 1]] [2, 3] := fit_of (by decide) (by decide) (by decide) (by decide) (by decide) (by decide) (by decide) (by decide)
theorem fit_one : Fit 2 [[0, 0]] [2] := fit_of (by decide) (by decide) (by decide) (by decide) (by decide) (by decide) (by decide) (by decide)
theorem sp_known (b : 3 ≤ h.length) : W__law_known.run [] h (fun v h' => ∃ a b c, v = .tup [.loc a, .loc b, .loc c] ∧ Ext h h' ∧ IsW h' a [[0, 1], [0, 2], [2, 2]] [0, 0, 1]) NX := by
  have big := sl_big
  unfold W__law_known
  walk_at "w"
  refine ⟨by omega, by omega, by omega, by omega, new_own (Own.start b) fun l3 h3 O3 => ⟨by omega, new_own O3 fun l4 h4 O4 => ?_⟩⟩
  have g4 := O4.f2
  have b3 : 3 ≤ l3 := by have := O3.ge1; have := O3.base; omega
  have b4 : 3 ≤ l4 := by have := O4.ge1; have := O4.base; omega
  refine make_watch (x := .loc l3) (y := .loc l4) (mv := [[0, 1], [0, 2], [2, 2]]) (wd := [0, 0, 1]) (k := 2) (xs := [encR [0, 1], encR [0, 2], encR [2, 2]]) O4.b ⟨b3, g4.2⟩ nof_loc (fun y hy => by simp at hy; rcases hy with rfl | rfl | rfl <;> exact nof_tup) (rows_tup [[0, 1], [0, 2], [2, 2]]) fit_falls ⟨b4, g4.1⟩ nof_loc fun l5 h5 O5 => ?_
  have wa := own_watch O5
  have E5 := O4.ext.trans O5.ext
  have b5 := O5.b
  clear O3 O4 O5 g4 b3 b4
  walk_at "n"
  refine ⟨by omega, by omega, by omega, new_own (Own.start b5) fun l3 h3 O3 => ⟨by omega, new_own O3 fun l4 h4 O4 => ?_⟩⟩
  have g4 := O4.f2
  have b3 : 3 ≤ l3 := by have := O3.ge1; have := O3.base; omega
  have b4 : 3 ≤ l4 := by have := O4.ge1; have := O4.base; omega
  refine make_watch (x := .loc l3) (y := .loc l4) (mv := [[0, 1], [0, 1]]) (wd := [0, 1]) (k := 2) (xs := [encR [0, 1], encR [0, 1]]) O4.b ⟨b3, g4.2⟩ nof_loc (fun y hy => by simp at hy; rcases hy with rfl | rfl <;> exact nof_tup) (rows_tup [[0, 1], [0, 1]]) fit_last ⟨b4, g4.1⟩ nof_loc fun l6 h6 O6 => ?_
  have wa6 := wa.ext (O4.ext.trans O6.ext)
  have E6 := E5.trans (O4.ext.trans O6.ext)
  have b6 := O6.b
  clear O3 O4 O6 g4 b3 b4 wa E5
  refine ⟨by omega, by omega, by omega, by omega, by omega, new_own (Own.start b6) fun l3 h3 O3 => ⟨by omega, new_own O3 fun l4 h4 O4 => ?_⟩⟩
  have g4 := O4.f2
  have b3 : 3 ≤ l3 := by have := O3.ge1; have := O3.base; omega
  have b4 : 3 ≤ l4 := by have := O4.ge1; have := O4.base; omega
  refine make_watch (x := .loc l3) (y := .loc l4) (mv := [[1, 2], [3, 3], [3, 3], [3, 3]]) (wd := [0, 0, 0, 1]) (k := 2) (xs := [encR [1, 2], encR [3, 3], encR [3, 3], encR [3, 3]]) O4.b ⟨b3, g4.2⟩ nof_loc (fun y hy => by simp at hy; rcases hy with rfl | rfl <;> exact nof_tup) (rows_tup [[1, 2], [3, 3], [3, 3], [3, 3]]) fit_three ⟨b4, g4.1⟩ nof_loc fun l7 h7 O7 => ?_
  have wa7 := wa6.ext (O4.ext.trans O7.ext)
  have E7 := E6.trans (O4.ext.trans O7.ext)
  exact ⟨by omega, E7, wa7⟩
theorem law_runs : ∀ ns : List Int, ns.length ≤ 63 → (∀ z ∈ ns, PySem.Builtin.Int.intBits z ≤ 1048576) → W_law.run [.fls (ns.map .int)] [] (fun v _ => v = .bl true) (fun _ _ => False) := by
  intro ns hn hz
  clear hz
  have big := sl_big
  unfold W_law
  refine w_FL (e := [some (.fls (ns.map .int)), none, none, none, none, none, none, none, none, none, none, none, none, none, none, none, none, none]) rfl rfl (fun D => ∀ h', D.rt (.bl true) h') (fun _ => rfl) fun D hD => ?_
  refine w_goS ?_
  walk_at "w"
  refine W__law_begun.mono (sp_begun hn) ?_ fun _ _ z => z.elim
  rintro _ h1 ⟨rfl, T1⟩
  refine w_goS ?_
  walk_at "w"
  refine ⟨by split <;> omega, by split <;> omega, ?_⟩
  refine for_rngL (fun i e h' => ∃ (o2 o3 o4 o5 o6 o7 o8 o9 o10 o11 o12 : Option PV), e = [some (.fls (ns.map .int)), some (.loc 1), o2, o3, o4, o5, o6, o7, o8, o9, o10, o11, o12, none, none, none, none, none] ∧ Tp true h') ⟨_, _, _, _, _, _, _, _, _, _, _, rfl, T1⟩ ?_ ?_
  · rintro i hi e h ⟨o2, o3, o4, o5, o6, o7, o8, o9, o10, o11, o12, rfl, T⟩ D' hrt hnx
    have hfin : ∀ (o2 o3 o4 o5 o6 o7 o8 o9 o10 o11 o12 : Option PV) (h' : Hh), Tp true h' → D'.nx [some (.fls (ns.map .int)), some (.loc 1), o2, o3, o4, o5, o6, o7, o8, o9, o10, o11, o12, none, none, none, none, none] h' := fun o2 o3 o4 o5 o6 o7 o8 o9 o10 o11 o12 h' t => hnx _ _ ⟨_, _, _, _, _, _, _, _, _, _, _, rfl, t⟩
    clear hnx hrt
    walk_at "w"
    refine w_goS ?_
    walk_at "w"
    refine W__law_form.mono (sp_form T) ?_ fun _ _ z => z.elim
    rintro _ h2 ⟨k, mv, wd, rfl, F, X2⟩
    have T2 := X2.tp
    clear T X2
    refine w_goS ?_
    walk_at "w"
    refine W__law_made.mono (sp_made T2.b F) ?_ fun _ _ z => z.elim
    rintro _ h3 ⟨l, rfl, O3⟩
    have T3 := O3.ext.tape true T2
    have w3 : IsW h3 l mv wd := ⟨by have := O3.ge1; have := T2.b; omega, O3.f1⟩
    clear O3 T2
    refine W__law_draw.mono (sp_draw T3 (by decide) (by decide)) ?_ fun _ _ z => z.elim
    rintro _ h4 ⟨len, rfl, hlen, E4, T4⟩
    have w4 := w3.ext E4
    clear w3 T3 E4
    walk_at "w"
    refine ⟨by omega, ?_⟩
    refine w_goS ?_
    walk_at "w"
    refine W__law_first_rows.mono (sp_first_rows T4.b F) ?_ fun _ _ z => z.elim
    rintro _ h5 ⟨rfl, E5⟩
    have w5 := w4.ext E5
    have T5 := E5.tape true T4
    clear w4 T4 E5
    walk_at "w"
    refine w_goS ?_
    walk_at "w"
    refine W_word_rows.mono (sp_word_rows T5.b w5 F) ?_ fun _ _ z => z.elim
    rintro _ h6 ⟨rfl, E6⟩
    have w6 := w5.ext E6
    have T6 := E6.tape true T5
    clear w5 T5 E6
    walk_at "w"
    refine ne_rows (mv := mv) (mv2 := mv) (wd := wd) (wd2 := wd) rfl ?_
    walk_at "w"
    refine W_places_reached.mono (sp_places_reached T6.b w6 F) ?_ fun _ _ z => z.elim
    rintro _ h7 ⟨rfl, E7⟩
    have w7 := w6.ext E7
    have T7 := E7.tape true T6
    clear w6 T6 E7
    walk_at "w"
    refine ne_row rfl ?_
    walk_at "w"
    refine w_goS ?_
    walk_at "w"
    have hl300 : len ≤ 300 := by omega
    refine W_word_counts.mono (sp_word_counts T7.b w7 F hl300) ?_ fun _ _ z => z.elim
    rintro _ h8 ⟨rfl, E8⟩
    have w8 := w7.ext E8
    have T8 := E8.tape true T7
    clear w7 T7 E8
    refine W__law_counted.mono (sp_counted T8.b F hl300) ?_ fun _ _ z => z.elim
    rintro _ h9 ⟨rfl, E9⟩
    have w9 := w8.ext E9
    have T9 := E9.tape true T8
    clear w8 T8 E9
    refine ne_row rfl ?_
    walk_at "w"
    refine W_word_counts.mono (sp_word_counts T9.b w9 F hl300) ?_ fun _ _ z => z.elim
    rintro _ h10 ⟨rfl, E10⟩
    have w10 := w9.ext E10
    have T10 := E10.tape true T9
    clear w9 T9 E10
    refine W__law_counted.mono (sp_counted T10.b F hl300) ?_ fun _ _ z => z.elim
    rintro _ h11 ⟨rfl, E11⟩
    have w11 := w10.ext E11
    have T11 := E11.tape true T10
    clear w10 T10 E11
    refine ne_row rfl ?_
    walk_at "w"
    refine w_goS ?_
    walk_at "w"
    refine W_least_watch.mono (sp_least_watch T11.b w11 F) ?_ fun _ _ z => z.elim
    rintro _ h12 ⟨ls, tbl, wds, rfl, Ls, Fs, O12⟩
    have w12 := w11.ext O12.ext
    have s12 := own_watch O12
    have T12 := O12.ext.tape true T11
    clear w11 T11 O12
    walk_at "w"
    refine w_goS ?_
    walk_at "w"
    refine W__law_small.mono (sp_small T12.b F) ?_ fun _ _ z => z.elim
    rintro _ h13 ⟨l', tbl', wds', rfl, Ls', Fs', O13⟩
    have w13 := w12.ext O13.ext
    have s13 := s12.ext O13.ext
    have T13 := O13.ext.tape true T12
    refine ne_watch s13 (own_watch O13) (Mx.least_unique Ls Ls') ?_
    clear w12 s12 T12 O13 Ls' Fs'
    walk_at "w"
    refine W_least_watch.mono (sp_least_watch T13.b s13 Fs) ?_ fun _ _ z => z.elim
    rintro _ h14 ⟨l', tbl', wds', rfl, Ls', Fs', O14⟩
    have w14 := w13.ext O14.ext
    have s14 := s13.ext O14.ext
    have T14 := O14.ext.tape true T13
    refine ne_watch (own_watch O14) s14 (Mx.least_unique Ls' (least_congr Ls fun r hr => (Ls.says r hr).symm)) ?_
    clear w13 s13 T13 O14 Ls' Fs'
    walk_at "w"
    refine W_word_rows.mono (sp_word_rows T14.b s14 Fs) ?_ fun _ _ z => z.elim
    rintro _ h15 ⟨rfl, E15⟩
    have w15 := w14.ext E15
    have s15 := s14.ext E15
    have T15 := E15.tape true T14
    clear w14 s14 T14 E15
    have er : rowsOf tbl wds = rowsOf mv wd := List.map_congr_left fun v _ => by rw [Mx.firstRow_same Fs.wf F.wf fun r hr => Ls.says r hr]
    refine ne_rows (mv := tbl) (mv2 := mv) (wd := wds) (wd2 := wd) er ?_
    walk_at "w"
    refine W_places_reached.mono (sp_places_reached T15.b s15 Fs) ?_ fun _ _ z => z.elim
    rintro _ h16 ⟨rfl, E16⟩
    have w16 := w15.ext E16
    have s16 := s15.ext E16
    have T16 := E16.tape true T15
    clear w15 s15 T15 E16
    have fs := s16.2
    unfold watchC at fs
    walk_at "w"
    refine W_Watch_moves.mono (sp_moves s16) ?_ fun _ _ z => z
    rintro _ _ ⟨rfl, rfl⟩
    have tl := Fs.m6
    unfold encM
    walk_at "w"
    rw [List.length_map]
    refine ⟨by omega, by omega, new_own (Own.start T16.b) fun l17 h17 O17 => ?_⟩
    rw [Int.toNat_natCast] at O17
    have w17 := w16.ext O17.ext
    have s17 := s16.ext O17.ext
    have T17 := O17.ext.tape true T16
    have f17 := O17.f1
    clear w16 s16 T16 fs
    walk_at "w"
    have eb : sortN (Mx.bfs (Mx.goals tbl) 0 tbl.length) = List.range tbl.length := by
      rw [Ls.num]
      exact sortN_id (List.pairwise_le_range)
    refine ne_row (s := List.range tbl.length) eb ?_
    clear O17 f17
    walk_at "w"
    refine w_goS ?_
    walk_at "w"
    refine W__law_row.mono (sp_row (mo := 9) T17 F (by decide)) ?_ fun _ _ z => z.elim
    rintro _ h18 ⟨r, rfl, rl, rd, X18⟩
    have w18 := w17.ext X18.ext
    have s18 := s17.ext X18.ext
    have T18 := X18.tp
    clear w17 s17 T17 X18
    walk_at "w"
    refine w_goS ?_
    walk_at "w"
    refine W_verdict_of.mono (sp_verdict_of T18.b s18 Fs.wf (r := r) ⟨rfl, nof_tup, by omega, rd⟩) ?_ fun _ _ z => z.elim
    rintro _ h19 ⟨rfl, E19⟩
    have w19 := w18.ext E19
    have s19 := s18.ext E19
    have T19 := E19.tape true T18
    clear w18 s18 T18 E19
    refine W__law_word.mono (sp_word F.wf (x := encR r) (r := r) rfl rd) ?_ fun _ _ z => z.elim
    rintro _ _ ⟨rfl, rfl⟩
    rw [Ls.says r rd]
    walk_at "w"
    simp only [decide_true, Bool.not_true, Bool.false_eq_true, if_false]
    refine list_of (x := encR r) (xs := nums r) rfl ?_
    refine new_own (Own.start T19.b) fun l20 h20 O20 => ?_
    have w20 := w19.ext O20.ext
    have s20 := s19.ext O20.ext
    have T20 := O20.ext.tape true T19
    have q20 : SeqV h20 (.loc l20) (nums r) := ⟨by have := O20.ge1; have := O20.base; omega, O20.f1⟩
    clear w19 s19 T19 O20
    refine W_place_behind.mono (sp_place_behind T20.b w20 F.wf (r := r) ⟨q20, nof_loc, by omega, rd⟩) ?_ fun _ _ z => z.elim
    rintro _ h21 ⟨rfl, E21⟩
    have w21 := w20.ext E21
    have T21 := E21.tape true T20
    clear w20 s20 T20 E21 q20
    refine W__law_place.mono (sp_place F.wf (x := encR r) (r := r) rfl rd) ?_ fun _ _ z => z.elim
    rintro _ _ ⟨rfl, rfl⟩
    walk_at "w"
    simp only [decide_true, Bool.not_true, Bool.false_eq_true, if_false]
    refine w_goS ?_
    walk_at "w"
    refine new_own (Own.start T21.b) fun l22 h22 O22 => ?_
    refine lc_fm (α := Nat) (f := fun v => optR (Mx.firstRow mv wd v)) (xs := List.range 4) O22 (fun _ => false) (fun _ => .non) (by simp; omega) (fun _ _ _ => trivial) ?_ ?_
    · intro v hv acc h23 O23
      have hv : v < 4 := by simpa using hv
      cases hr : Mx.firstRow mv wd v with
      | none =>
        unfold optR
        walk_at "w"
        exact ⟨Ext.refl _, fun z => z.elim⟩
      | some r0 =>
        obtain ⟨d0, e0, _⟩ := Mx.firstRow_some F.wf hr
        have e1 : optR (some r0) = encR r0 := rfl
        rw [e1]
        have nn : PyA.isNon (encR r0) = false := rfl
        walk_at "w"
        refine W__law_word.mono (sp_word F.wf (x := encR r0) (r := r0) rfl d0) ?_ fun _ _ z => z.elim
        rintro _ _ ⟨rfl, rfl⟩
        have prs := pl_rowsOf mv wd
        refine tupix_pl (xs := rowsOf mv wd) (j := v) (z := encR r0) prs.1 (by omega) (pl_row r0) ?_ rfl ?_ ?_
        · unfold rowsOf
          rw [List.getElem?_map, List.getElem?_range hv]
          simp only [Option.map_some, hr]; rfl
        · intro m z' hm hz' eb
          unfold rowsOf at hz'
          rw [List.getElem?_map, List.getElem?_range (by omega)] at hz'
          simp only [Option.map_some, Option.some.injEq] at hz'
          subst hz'
          rw [(pl_optR _).2.1, bare_row] at eb
          cases hr2 : Mx.firstRow mv wd m with
          | none => rw [hr2] at eb; cases eb
          | some r1 =>
            rw [hr2] at eb
            have := encR_inj (show encR r1 = encR r0 from eb)
            subst this
            obtain ⟨_, e2, _⟩ := Mx.firstRow_some F.wf hr2
            omega
        · rw [e0]
          walk_at "w"
          simp only [decide_true, Bool.not_true]
          exact ⟨trivial, Ext.refl _, fun z => z.elim⟩
    intro h23 O23
    rw [List.filter_eq_nil_iff.mpr (by simp)] at O23
    walk_at "w"
    refine ⟨by omega, new_own O23 fun l24 h24 O24 => ?_⟩
    refine ne_nil (xs := []) O24.f2.2 O24.f1 rfl (by simp [pdeps]) ?_
    have w24 := w21.ext O24.ext
    have T24 := O24.ext.tape true T21
    clear w21 T21 O24 O23 O22
    walk_at "w"
    simp only [List.isEmpty_nil, Bool.not_true, Bool.false_eq_true, if_false]
    refine w_goS ?_
    walk_at "w"
    refine ix_of (x := encW mv wd) (xs := [encM mv, encR wd]) (y := encM mv) rfl rfl ?_
    walk_at "w"
    refine ix_of (x := encW mv wd) (xs := [encM mv, encR wd]) (y := encR wd) rfl rfl ?_
    walk_at "w"
    refine ⟨by omega, by omega, new_own (Own.start T24.b) fun l25 h25 O25 => ?_⟩
    have w25 := w24.ext O25.ext
    have T25 := O25.ext.tape true T24
    refine W__law_pick.mono (sp_pick T25 O25.f1 (by have := O25.ge1; have := O25.base; omega) (by simp) (by simp)) ?_ fun _ _ z => z.elim
    rintro none h26 ⟨hnone, X26⟩
    have on : PyA.Ord none := by
      simp only [List.mem_cons, List.not_mem_nil, or_false] at hnone
      rcases hnone with rfl | rfl | rfl <;> trivial
    have w26 := w25.ext X26.ext
    have T26 := X26.tp
    clear w24 T24 w25 T25 O25 X26 hnone
    walk_at "w"
    refine w_goS ?_
    walk_at "w"
    intro lf lc
    refine ⟨by omega, new_own (Own.start T26.b) fun l27 h27 O27 => ?_⟩
    have f27 := O27.f1
    walk_at "w"
    refine for_inv (f := id) (xs := [.gf "word_rows", .gf "places_reached", .gf "least_watch", .clo d_law_lam0 lf lc [] [] []]) (fun d e h' => ∃ (o11 : Option PV), e = [some (.fls (ns.map .int)), some (.loc 1), some (.int (0 + (i : Nat))), some (encW mv wd), some (.loc l), some (.int (len : Nat)), some (.ftp (rowsOf mv wd)), some (encR (sortN (Mx.bfs (Mx.goals mv) 0 mv.length))), some (.loc ls), some (encR r), some none, o11, o12, .none, .none, .none, .none, .none] ∧ Own h26 h' [(l27, .lst [.gf "word_rows", .gf "places_reached", .gf "least_watch", .clo d_law_lam0 lf lc [] [] []])]) ⟨_, rfl, O27⟩ (fun d e h' ⟨_, _, O'⟩ => O'.f1) ?_ ?_
    · rintro d x rr hd e h28 ⟨o11, rfl, O28⟩
      have hx : x ∈ ([.gf "word_rows", .gf "places_reached", .gf "least_watch", .clo d_law_lam0 lf lc [] [] []] : List PV) := by rw [hd]; simp
      clear hd
      walk_at "w"
      refine ⟨[x, none], rfl, fun f c cl us => ?_⟩
      refine (W__law_caught _).mono (sp_caught (F := L_law_lam1 [x, none]) (.inl ⟨rfl, rfl⟩) (P := fun v h'' => v = .exn "NoWatch" ["part"] [.non] ∧ h28 = h'') ?_) ?_ fun _ _ z => z.elim
      · unfold L_law_lam1 B_law_lam1
        walk_at "w"
        have mem : (("NoWatch" : Str), true) ∈ et_WatchError := by unfold et_WatchError; repeat (first | exact List.Mem.head _ | apply List.Mem.tail)
        simp only [List.mem_cons, List.not_mem_nil, or_false] at hx
        rcases hx with rfl | rfl | rfl | rfl
        · exact ⟨_, .inl ⟨rfl, rfl⟩, W_word_rows.mono (no_word_rows on (R := fun x h'' => (x.c, true) ∈ et_WatchError ∧ exnPV x = .exn "NoWatch" ["part"] [.non] ∧ h28 = h'') ⟨mem, rfl, rfl⟩) (fun _ _ z => z.elim) fun _ _ q => q⟩
        · exact ⟨_, .inr (.inl ⟨rfl, rfl⟩), W_places_reached.mono (no_places_reached on (R := fun x h'' => (x.c, true) ∈ et_WatchError ∧ exnPV x = .exn "NoWatch" ["part"] [.non] ∧ h28 = h'') ⟨mem, rfl, rfl⟩) (fun _ _ z => z.elim) fun _ _ q => q⟩
        · exact ⟨_, .inr (.inr (.inl ⟨rfl, rfl⟩)), W_least_watch.mono (no_least_watch on (R := fun x h'' => (x.c, true) ∈ et_WatchError ∧ exnPV x = .exn "NoWatch" ["part"] [.non] ∧ h28 = h'') ⟨mem, rfl, rfl⟩) (fun _ _ z => z.elim) fun _ _ q => q⟩
        · refine ⟨_, .inr (.inr (.inr ⟨_, _, rfl, rfl⟩)), ?_⟩
          unfold L_law_lam0 B_law_lam0
          walk_at "w"
          exact W_word_counts.mono (no_word_counts on (R := fun x h'' => (x.c, true) ∈ et_WatchError ∧ exnPV x = .exn "NoWatch" ["part"] [.non] ∧ h28 = h'') ⟨mem, rfl, rfl⟩) (fun _ _ z => z.elim) fun _ _ q => q
      · rintro _ _ ⟨rfl, rfl⟩
        refine isi1 rfl ?_ rfl (b := true) (by walk_at "kt") ?_
        · show ("NoWatch" : Str) ∈ ce
          unfold ce; repeat (first | exact List.Mem.head _ | apply List.Mem.tail)
        · walk_at "w"
    · rintro e h28 ⟨o11, rfl, O28⟩
      have w28 := w26.ext O28.ext
      have T28 := O28.ext.tape true T26
      clear w26 T26 O27 O28 f27
      dsimp only
      refine w_goS ?_
      walk_at "w"
      refine ⟨[.loc l, .loc 1], rfl, fun f c cl us => ?_⟩
      refine (W__law_caught _).mono (sp_caught (F := L_law_lam2 [.loc l, .loc 1]) (.inl ⟨rfl, rfl⟩) (P := fun v h'' => v = .exn "BadNumber" ["part"] [.str "length"] ∧ Tp true h'') ?_) ?_ fun _ _ z => z.elim
      · unfold L_law_lam2 B_law_lam2
        walk_at "w"
        refine ⟨by omega, new_own (Own.start T28.b) fun l29 h29 O29 => ?_⟩
        have w29 := w28.ext O29.ext
        refine W__law_pick.mono (sp_pick (O29.ext.tape true T28) O29.f1 (by have := O29.ge1; have := O29.base; omega) (by simp) (by simp)) ?_ fun _ _ z => z.elim
        rintro odd h30 ⟨hodd, X30⟩
        have mem : (("BadNumber" : Str), true) ∈ et_WatchError := by unfold et_WatchError; repeat (first | exact List.Mem.head _ | apply List.Mem.tail)
        have ho : PyA.Ord odd ∧ btw odd 0 300 = false := by
          simp only [List.mem_cons, List.not_mem_nil, or_false] at hodd
          rcases hodd with rfl | rfl | rfl | rfl
          · exact ⟨trivial, rfl⟩
          · exact ⟨trivial, by decide⟩
          · exact ⟨trivial, by decide⟩
          · exact ⟨trivial, rfl⟩
        exact W_word_counts.mono (bad_word_counts (w29.ext X30.ext) ho.1 ho.2 (R := fun x h'' => (x.c, true) ∈ et_WatchError ∧ exnPV x = .exn "BadNumber" ["part"] [.str "length"] ∧ Tp true h'') ⟨mem, rfl, X30.tp⟩) (fun _ _ z => z.elim) fun _ _ q => q
      · rintro _ h29 ⟨rfl, T29⟩
        clear w28 T28
        refine w_go ?_
        walk_at "w"
        refine isi1 rfl ?_ rfl (b := true) (by walk_at "kt") ?_
        · show ("BadNumber" : Str) ∈ ce
          unfold ce; repeat (first | exact List.Mem.head _ | apply List.Mem.tail)
        · walk_at "w"
          refine ⟨["part"], [.str "length"], rfl, .str "length", rfl, ?_⟩
          refine ne_str (by decide +kernel) (by decide +kernel) ?_
          simp only [beq_self_eq_true, Bool.not_true]
          walk_at "w"
  · rintro e h ⟨o2, o3, o4, o5, o6, o7, o8, o9, o10, o11, o12, rfl, T⟩
    dsimp only
    refine w_goS ?_
    walk_at "w"
    refine W__law_known.mono (sp_known T.b) ?_ fun _ _ z => z.elim
    rintro _ h2 ⟨a, b', c, rfl, E2, wa⟩
    have T2 := E2.tape true T
    clear E2 T
    walk_at "w"
    refine w_goS ?_
    walk_at "w"
    refine ⟨by omega, by omega, by omega, new_own (Own.start T2.b) fun l3 h3 O3 => ⟨by omega, new_own O3 fun l4 h4 O4 => ?_⟩⟩
    have g4 := O4.f2
    have b3 : 3 ≤ l3 := by have := O3.ge1; have := O3.base; omega
    have b4 : 3 ≤ l4 := by have := O4.ge1; have := O4.base; omega
    refine make_watch (x := .loc l3) (y := .loc l4) (mv := [[0, 0], [0, 1]]) (wd := [2, 3]) (k := 2) (xs := [encR [0, 0], encR [0, 1]]) O4.b ⟨b3, g4.2⟩ nof_loc (fun y hy => by simp at hy; rcases hy with rfl | rfl <;> exact nof_tup) (rows_tup [[0, 0], [0, 1]]) fit_far ⟨b4, g4.1⟩ nof_loc fun l5 h5 O5 => ?_
    have wf := own_watch O5
    have wa5 := wa.ext (O4.ext.trans O5.ext)
    have T5 := O5.ext.tape true (O4.ext.tape true T2)
    clear O3 O4 O5 g4 wa T2
    walk_at "w"
    refine w_goS ?_
    walk_at "w"
    refine W_word_rows.mono (sp_word_rows T5.b wa5 fit_falls) ?_ fun _ _ z => z.elim
    rintro _ h6 ⟨rfl, E6⟩
    have wa6 := wa5.ext E6
    have wf6 := wf.ext E6
    have T6 := E6.tape true T5
    clear wa5 wf T5 E6
    walk_at "w"
    refine ⟨by omega, by omega, by omega, ?_⟩
    refine ne_same (x := .tup (rowsOf [[0, 1], [0, 2], [2, 2]] [0, 0, 1])) (y := .tup [.tup [], .tup [.int 1, .int 1], .non, .non]) ⟨?_, ?_⟩ ⟨by decide, by decide⟩ ?_ ?_
    · have := pl_rowsOf [[0, 1], [0, 2], [2, 2]] [0, 0, 1]
      simpa [PyA.plain] using this.1
    · have := pl_rowsOf [[0, 1], [0, 2], [2, 2]] [0, 0, 1]
      simp [pdep]; omega
    · have : rowsOf [[0, 1], [0, 2], [2, 2]] [0, 0, 1] = [encR [], encR [1, 1], .non, .non] := by
        unfold rowsOf
        have e0 : Mx.firstRow [[0, 1], [0, 2], [2, 2]] [0, 0, 1] 0 = some [] := by decide
        have e1 : Mx.firstRow [[0, 1], [0, 2], [2, 2]] [0, 0, 1] 1 = some [1, 1] := by decide
        have e2 : Mx.firstRow [[0, 1], [0, 2], [2, 2]] [0, 0, 1] 2 = .none := by decide
        have e3 : Mx.firstRow [[0, 1], [0, 2], [2, 2]] [0, 0, 1] 3 = .none := by decide
        show [optR _, optR _, optR _, optR _] = _
        rw [e0, e1, e2, e3]; rfl
      rw [this]; rfl
    walk_at "w"
    refine W_places_reached.mono (sp_places_reached T6.b wf6 fit_far) ?_ fun _ _ z => z.elim
    rintro _ h7 ⟨rfl, E7⟩
    have wa7 := wa6.ext E7
    have wf7 := wf6.ext E7
    have T7 := E7.tape true T6
    clear wa6 wf6 T6 E7
    refine ⟨by omega, ?_⟩
    refine ne_row (s := [0]) (by rw [show Mx.bfs (Mx.goals [[0, 0], [0, 1]]) 0 ([[0, 0], [0, 1]] : List (List Nat)).length = [0] by decide]; exact sortN_id (by simp)) ?_
    walk_at "w"
    refine W_word_rows.mono (sp_word_rows T7.b wf7 fit_far) ?_ fun _ _ z => z.elim
    rintro _ h8 ⟨rfl, E8⟩
    have wa8 := wa7.ext E8
    have wf8 := wf7.ext E8
    have T8 := E8.tape true T7
    clear wa7 wf7 T7 E8
    refine ⟨by omega, by omega, ?_⟩
    refine ne_same (x := .tup (rowsOf [[0, 0], [0, 1]] [2, 3])) (y := .tup [.non, .non, .tup [], .non]) ⟨?_, ?_⟩ ⟨by decide, by decide⟩ ?_ ?_
    · have := pl_rowsOf [[0, 0], [0, 1]] [2, 3]
      simpa [PyA.plain] using this.1
    · have := pl_rowsOf [[0, 0], [0, 1]] [2, 3]
      simp [pdep]; omega
    · have : rowsOf [[0, 0], [0, 1]] [2, 3] = [.non, .non, encR [], .non] := by
        unfold rowsOf
        have e0 : Mx.firstRow [[0, 0], [0, 1]] [2, 3] 0 = .none := by decide
        have e1 : Mx.firstRow [[0, 0], [0, 1]] [2, 3] 1 = .none := by decide
        have e2 : Mx.firstRow [[0, 0], [0, 1]] [2, 3] 2 = some [] := by decide
        have e3 : Mx.firstRow [[0, 0], [0, 1]] [2, 3] 3 = .none := by decide
        show [optR _, optR _, optR _, optR _] = _
        rw [e0, e1, e2, e3]; rfl
      rw [this]; rfl
    walk_at "w"
    refine w_go ?_
    walk_at "w"
    refine W_least_watch.mono (sp_least_watch T8.b wf8 fit_far) ?_ fun _ _ z => z.elim
    rintro _ h9 ⟨ls, tbl, wds, rfl, Ls, Fs, O9⟩
    have wa9 := wa8.ext O9.ext
    have wf9 := wf8.ext O9.ext
    have T9 := O9.ext.tape true T8
    have s9 := own_watch O9
    clear wa8 wf8 T8 O9
    refine ⟨by omega, by omega, new_own (Own.start T9.b) fun l3 h3 O3 => ⟨by omega, new_own O3 fun l4 h4 O4 => ?_⟩⟩
    have g4 := O4.f2
    have b3 : 3 ≤ l3 := by have := O3.ge1; have := O3.base; omega
    have b4 : 3 ≤ l4 := by have := O4.ge1; have := O4.base; omega
    refine make_watch (x := .loc l3) (y := .loc l4) (mv := [[0, 0]]) (wd := [2]) (k := 2) (xs := [encR [0, 0]]) O4.b ⟨b3, g4.2⟩ nof_loc (fun y hy => by simp at hy; rcases hy with rfl; exact nof_tup) (rows_tup [[0, 0]]) fit_one ⟨b4, g4.1⟩ nof_loc fun l5 h5 O5 => ?_
    have wo := own_watch O5
    have s10 := s9.ext (O4.ext.trans O5.ext)
    have wa10 := wa9.ext (O4.ext.trans O5.ext)
    have T10 := O5.ext.tape true (O4.ext.tape true T9)
    clear O3 O4 O5 g4 wa9 wf9 T9 s9
    refine eq_watch s10 wo (Mx.least_unique Ls ?_) ?_
    · have stay : ∀ r : List Nat, Mx.Dig 2 r → Mx.led [[0, 0], [0, 1]] 0 r = 0 ∧ Mx.led [[0, 0]] 0 r = 0 := by
        intro r
        induction r with
        | nil => exact fun _ => ⟨rfl, rfl⟩
        | cons d r ih =>
          intro hd
          have h0 : d < 2 := hd d (by simp)
          have ih := ih fun x hx => hd x (by simp [hx])
          have : d = 0 ∨ d = 1 := by omega
          rcases this with rfl | rfl
          · exact ih
          · exact ih
      refine ⟨fit_one.wf, fun r hr => ?_, by decide, fun p q hp hq _ => ?_⟩
      · unfold Mx.says
        rw [(stay r hr).1, (stay r hr).2]; rfl
      · simp at hp hq; omega
    walk_at "w"
    refine W_word_counts.mono (sp_word_counts (d := 3) T10.b wa10 fit_falls (by decide)) ?_ fun _ _ z => z.elim
    rintro _ h11 ⟨rfl, E11⟩
    have wa11 := wa10.ext E11
    have T11 := E11.tape true T10
    clear wa10 T10 E11 s10 wo
    refine ⟨by omega, ?_⟩
    refine eq_pl (x := encR ((List.range 4).map (Mx.wcount [[0, 1], [0, 2], [2, 2]] [0, 0, 1] 3))) (y := encR [5, 3, 0, 0]) (b := true) (pl_row _) (pl_row _) ?_ ?_
    · rw [show (List.range 4).map (Mx.wcount [[0, 1], [0, 2], [2, 2]] [0, 0, 1] 3) = [5, 3, 0, 0] by decide]; simp
    walk_at "w"
    refine W_places_reached.mono (sp_places_reached T11.b wa11 fit_falls) ?_ fun _ _ z => z.elim
    rintro _ h12 ⟨rfl, E12⟩
    refine ⟨by omega, ?_⟩
    refine eq_pl (x := encR (sortN (Mx.bfs (Mx.goals [[0, 1], [0, 2], [2, 2]]) 0 ([[0, 1], [0, 2], [2, 2]] : List (List Nat)).length))) (y := encR [0, 1, 2]) (b := true) (pl_row _) (pl_row _) ?_ ?_
    · rw [show Mx.bfs (Mx.goals [[0, 1], [0, 2], [2, 2]]) 0 ([[0, 1], [0, 2], [2, 2]] : List (List Nat)).length = [0, 1, 2] by decide, sortN_id (by decide)]; simp
    exact hD _
end
end K92
end
section
set_option Elab.async false
set_option linter.all false
set_option maxRecDepth 100000
set_option maxHeartbeats 4000000

/-! the defs do so (printed by gen.py) -/
namespace K92
open PySem L2 PySem.Spec PyProof.Rows NdefX PyA
def tf : List (He.Defn × Str) := [(("need_moves", none), lamQ "need_moves"), (("need_row_of", none), lamQ "need_row_of"), (("law", none), lamQ "law")]
abbrev Tt (K : PySem.W.Frag) : NTabs := tabsOf K tf
structure Gd (P : Program) (w : World) (K : PySem.W.Frag) (mg : Str → Option Value) (base : Heap) : Prop where
  f_abs : mg "abs" = none
  f_all : mg "all" = none
  f_bool : mg "bool" = none
  f_dict : mg "dict" = none
  f_enumerate : mg "enumerate" = none
  f_int : mg "int" = none
  f_isinstance : mg "isinstance" = none
  f_len : mg "len" = none
  f_list : mg "list" = none
  f_min : mg "min" = none
  f_range : mg "range" = none
  f_set : mg "set" = none
  f_sorted : mg "sorted" = none
  f_super : mg "super" = none
  f_tuple : mg "tuple" = none
  g_BadMoves : mg "BadMoves" = some (.ref (He.ga K "BadMoves"))
  g_BadNumber : mg "BadNumber" = some (.ref (He.ga K "BadNumber"))
  g_BadRow : mg "BadRow" = some (.ref (He.ga K "BadRow"))
  g_BadWords : mg "BadWords" = some (.ref (He.ga K "BadWords"))
  g_NoWatch : mg "NoWatch" = some (.ref (He.ga K "NoWatch"))
  g_Watch : mg "Watch" = some (.ref (He.ga K "Watch"))
  g_WatchError : mg "WatchError" = some (.ref (He.ga K "WatchError"))
  g__law_begun : mg "_law_begun" = some (.ref (He.ga K "_law_begun"))
  g__law_blend : mg "_law_blend" = some (.ref (He.ga K "_law_blend"))
  g__law_caught : mg "_law_caught" = some (.ref (He.ga K "_law_caught"))
  g__law_counted : mg "_law_counted" = some (.ref (He.ga K "_law_counted"))
  g__law_draw : mg "_law_draw" = some (.ref (He.ga K "_law_draw"))
  g__law_first_rows : mg "_law_first_rows" = some (.ref (He.ga K "_law_first_rows"))
  g__law_form : mg "_law_form" = some (.ref (He.ga K "_law_form"))
  g__law_known : mg "_law_known" = some (.ref (He.ga K "_law_known"))
  g__law_made : mg "_law_made" = some (.ref (He.ga K "_law_made"))
  g__law_pick : mg "_law_pick" = some (.ref (He.ga K "_law_pick"))
  g__law_place : mg "_law_place" = some (.ref (He.ga K "_law_place"))
  g__law_row : mg "_law_row" = some (.ref (He.ga K "_law_row"))
  g__law_small : mg "_law_small" = some (.ref (He.ga K "_law_small"))
  g__law_watch : mg "_law_watch" = some (.ref (He.ga K "_law_watch"))
  g__law_word : mg "_law_word" = some (.ref (He.ga K "_law_word"))
  g_first_wrong : mg "first_wrong" = some (.ref (He.ga K "first_wrong"))
  g_found_places : mg "found_places" = some (.ref (He.ga K "found_places"))
  g_is_between : mg "is_between" = some (.ref (He.ga K "is_between"))
  g_is_line : mg "is_line" = some (.ref (He.ga K "is_line"))
  g_is_list : mg "is_list" = some (.ref (He.ga K "is_list"))
  g_is_number : mg "is_number" = some (.ref (He.ga K "is_number"))
  g_is_short_list : mg "is_short_list" = some (.ref (He.ga K "is_short_list"))
  g_is_word : mg "is_word" = some (.ref (He.ga K "is_word"))
  g_law : mg "law" = some (.ref (He.ga K "law"))
  g_least_tables : mg "least_tables" = some (.ref (He.ga K "least_tables"))
  g_least_watch : mg "least_watch" = some (.ref (He.ga K "least_watch"))
  g_led_from : mg "led_from" = some (.ref (He.ga K "led_from"))
  g_marks_of : mg "marks_of" = some (.ref (He.ga K "marks_of"))
  g_need_both : mg "need_both" = some (.ref (He.ga K "need_both"))
  g_need_moves : mg "need_moves" = some (.ref (He.ga K "need_moves"))
  g_need_row : mg "need_row" = some (.ref (He.ga K "need_row"))
  g_need_row_of : mg "need_row_of" = some (.ref (He.ga K "need_row_of"))
  g_need_watch : mg "need_watch" = some (.ref (He.ga K "need_watch"))
  g_need_words : mg "need_words" = some (.ref (He.ga K "need_words"))
  g_numbered : mg "numbered" = some (.ref (He.ga K "numbered"))
  g_place_behind : mg "place_behind" = some (.ref (He.ga K "place_behind"))
  g_places_reached : mg "places_reached" = some (.ref (He.ga K "places_reached"))
  g_shortest_rows : mg "shortest_rows" = some (.ref (He.ga K "shortest_rows"))
  g_verdict_of : mg "verdict_of" = some (.ref (He.ga K "verdict_of"))
  g_word_counts : mg "word_counts" = some (.ref (He.ga K "word_counts"))
  g_word_rows : mg "word_rows" = some (.ref (He.ga K "word_rows"))
  c_MOST_EVENTS : ∃ t, mg "MOST_EVENTS" = some (.int 300 t)
  c_MOST_KINDS : ∃ t, mg "MOST_KINDS" = some (.int 4 t)
  c_MOST_PLACES : ∃ t, mg "MOST_PLACES" = some (.int 6 t)
  c_MOST_WORD : ∃ t, mg "MOST_WORD" = some (.int 3 t)
  cls_Watch : Cls K (He.ga K "Watch")
  na_Watch_own_moves : NoAttr K (He.ga K "Watch") "own_moves"
  na_Watch_own_words : NoAttr K (He.ga K "Watch") "own_words"
  mk_Watch : Mk K (He.ga K "Watch") (He.ma K (He.ga K "Watch") "__init__")
  pr_Watch_kinds : PropOf K (He.ga K "Watch") "kinds" (He.ma K (He.ga K "Watch") "kinds") (PyH.getAt "Watch" "kinds" K)
  pr_Watch_moves : PropOf K (He.ga K "Watch") "moves" (He.ma K (He.ga K "Watch") "moves") (PyH.getAt "Watch" "moves" K)
  pr_Watch_words : PropOf K (He.ga K "Watch") "words" (He.ma K (He.ga K "Watch") "words") (PyH.getAt "Watch" "words" K)
  eq_Watch : PyN.EqC K (He.ga K "Watch")
  kt : KTab K kt ci ce
  et_WatchError : ∀ q ∈ et_WatchError, PySem.W.exmOne K (.ref (He.ga K q.1)) (.ref (He.ga K "WatchError")) = some q.2
  xf_BadNumber : XfC K (He.ga K "BadNumber")
  xn_BadNumber_part : PySem.W.findIn K (.ref (He.ga K "BadNumber")) "part" = some none
  xi_BadMoves : PyN.XIok K (He.ga K "BadMoves") (He.ga K "ItemError") "index" ∧ PySem.W.findIn K (.ref (He.ga K "BadMoves")) "__init__" = some (some (.ref (He.ma K (He.ga K "ItemError") "__init__"))) ∧ PySem.W.typeIn K (.ref (He.ma K (He.ga K "ItemError") "__init__")) = some (.type "function")
  xi_BadNumber : PyN.XIok K (He.ga K "BadNumber") (He.ga K "PartError") "part" ∧ PySem.W.findIn K (.ref (He.ga K "BadNumber")) "__init__" = some (some (.ref (He.ma K (He.ga K "PartError") "__init__"))) ∧ PySem.W.typeIn K (.ref (He.ma K (He.ga K "PartError") "__init__")) = some (.type "function")
  xi_BadRow : PyN.XIok K (He.ga K "BadRow") (He.ga K "ItemError") "index" ∧ PySem.W.findIn K (.ref (He.ga K "BadRow")) "__init__" = some (some (.ref (He.ma K (He.ga K "ItemError") "__init__"))) ∧ PySem.W.typeIn K (.ref (He.ma K (He.ga K "ItemError") "__init__")) = some (.type "function")
  xi_BadWords : PyN.XIok K (He.ga K "BadWords") (He.ga K "ItemError") "index" ∧ PySem.W.findIn K (.ref (He.ga K "BadWords")) "__init__" = some (some (.ref (He.ma K (He.ga K "ItemError") "__init__"))) ∧ PySem.W.typeIn K (.ref (He.ma K (He.ga K "ItemError") "__init__")) = some (.type "function")
  xi_NoWatch : PyN.XIok K (He.ga K "NoWatch") (He.ga K "PartError") "part" ∧ PySem.W.findIn K (.ref (He.ga K "NoWatch")) "__init__" = some (some (.ref (He.ma K (He.ga K "PartError") "__init__"))) ∧ PySem.W.typeIn K (.ref (He.ma K (He.ga K "PartError") "__init__")) = some (.type "function")
  tabs : tabNB K tf = true
  d__law_begun : ∃ fd, FunD K "_law_begun" "_law_begun" (defArgs st__law_begun) (defBody st__law_begun) (defScope st__law_begun) [] [] (He.fAd K ("_law_begun", none)) fd
  d__law_caught : ∃ fd, FunD K "_law_caught" "_law_caught" (defArgs st__law_caught) (defBody st__law_caught) (defScope st__law_caught) [] [] (He.fAd K ("_law_caught", none)) fd
  d__law_counted : ∃ fd, FunD K "_law_counted" "_law_counted" (defArgs st__law_counted) (defBody st__law_counted) (defScope st__law_counted) [] [] (He.fAd K ("_law_counted", none)) fd
  d__law_blend : ∃ fd, FunD K "_law_blend" "_law_blend" (defArgs st__law_blend) (defBody st__law_blend) (defScope st__law_blend) [] [] (He.fAd K ("_law_blend", none)) fd
  d__law_draw : ∃ fd, FunD K "_law_draw" "_law_draw" (defArgs st__law_draw) (defBody st__law_draw) (defScope st__law_draw) [] [] (He.fAd K ("_law_draw", none)) fd
  d__law_first_rows : ∃ fd, FunD K "_law_first_rows" "_law_first_rows" (defArgs st__law_first_rows) (defBody st__law_first_rows) (defScope st__law_first_rows) [] [] (He.fAd K ("_law_first_rows", none)) fd
  d__law_watch : ∃ fd, FunD K "_law_watch" "_law_watch" (defArgs st__law_watch) (defBody st__law_watch) (defScope st__law_watch) [] [] (He.fAd K ("_law_watch", none)) fd
  d__law_form : ∃ fd, FunD K "_law_form" "_law_form" (defArgs st__law_form) (defBody st__law_form) (defScope st__law_form) [] [] (He.fAd K ("_law_form", none)) fd
  d_first_wrong : ∃ fd, FunD K "first_wrong" "first_wrong" (defArgs st_first_wrong) (defBody st_first_wrong) (defScope st_first_wrong) [] [] (He.fAd K ("first_wrong", none)) fd
  d_is_list : ∃ fd, FunD K "is_list" "is_list" (defArgs st_is_list) (defBody st_is_list) (defScope st_is_list) [] [] (He.fAd K ("is_list", none)) fd
  d_is_number : ∃ fd, FunD K "is_number" "is_number" (defArgs st_is_number) (defBody st_is_number) (defScope st_is_number) [] [] (He.fAd K ("is_number", none)) fd
  d_is_between : ∃ fd, FunD K "is_between" "is_between" (defArgs st_is_between) (defBody st_is_between) (defScope st_is_between) [] [] (He.fAd K ("is_between", none)) fd
  d_is_line : ∃ fd, FunD K "is_line" "is_line" (defArgs st_is_line) (defBody st_is_line) (defScope st_is_line) [] [] (He.fAd K ("is_line", none)) fd
  d_need_moves : ∃ fd, FunD K "need_moves" "need_moves" (defArgs st_need_moves) (defBody st_need_moves) (defScope st_need_moves) [] [] (He.fAd K ("need_moves", none)) fd
  d_is_word : ∃ fd, FunD K "is_word" "is_word" (defArgs st_is_word) (defBody st_is_word) (defScope st_is_word) [] [] (He.fAd K ("is_word", none)) fd
  d_need_words : ∃ fd, FunD K "need_words" "need_words" (defArgs st_need_words) (defBody st_need_words) (defScope st_need_words) [] [] (He.fAd K ("need_words", none)) fd
  d_Watch_init : ∃ fd, FunD K "__init__" "Watch.__init__" (defArgs st_Watch_init) (defBody st_Watch_init) (defScope st_Watch_init) [] [] (He.fAd K ("Watch", some "__init__")) fd
  d__law_known : ∃ fd, FunD K "_law_known" "_law_known" (defArgs st__law_known) (defBody st__law_known) (defScope st__law_known) [] [] (He.fAd K ("_law_known", none)) fd
  d__law_made : ∃ fd, FunD K "_law_made" "_law_made" (defArgs st__law_made) (defBody st__law_made) (defScope st__law_made) [] [] (He.fAd K ("_law_made", none)) fd
  d__law_pick : ∃ fd, FunD K "_law_pick" "_law_pick" (defArgs st__law_pick) (defBody st__law_pick) (defScope st__law_pick) [] [] (He.fAd K ("_law_pick", none)) fd
  d__law_place : ∃ fd, FunD K "_law_place" "_law_place" (defArgs st__law_place) (defBody st__law_place) (defScope st__law_place) [] [] (He.fAd K ("_law_place", none)) fd
  d__law_row : ∃ fd, FunD K "_law_row" "_law_row" (defArgs st__law_row) (defBody st__law_row) (defScope st__law_row) [] [] (He.fAd K ("_law_row", none)) fd
  d__law_small : ∃ fd, FunD K "_law_small" "_law_small" (defArgs st__law_small) (defBody st__law_small) (defScope st__law_small) [] [] (He.fAd K ("_law_small", none)) fd
  d__law_word : ∃ fd, FunD K "_law_word" "_law_word" (defArgs st__law_word) (defBody st__law_word) (defScope st__law_word) [] [] (He.fAd K ("_law_word", none)) fd
  d_found_places : ∃ fd, FunD K "found_places" "found_places" (defArgs st_found_places) (defBody st_found_places) (defScope st_found_places) [] [] (He.fAd K ("found_places", none)) fd
  d_numbered : ∃ fd, FunD K "numbered" "numbered" (defArgs st_numbered) (defBody st_numbered) (defScope st_numbered) [] [] (He.fAd K ("numbered", none)) fd
  d_marks_of : ∃ fd, FunD K "marks_of" "marks_of" (defArgs st_marks_of) (defBody st_marks_of) (defScope st_marks_of) [] [] (He.fAd K ("marks_of", none)) fd
  d_least_tables : ∃ fd, FunD K "least_tables" "least_tables" (defArgs st_least_tables) (defBody st_least_tables) (defScope st_least_tables) [] [] (He.fAd K ("least_tables", none)) fd
  d_need_watch : ∃ fd, FunD K "need_watch" "need_watch" (defArgs st_need_watch) (defBody st_need_watch) (defScope st_need_watch) [.non] [] (He.fAd K ("need_watch", none)) fd
  d_least_watch : ∃ fd, FunD K "least_watch" "least_watch" (defArgs st_least_watch) (defBody st_least_watch) (defScope st_least_watch) [] [] (He.fAd K ("least_watch", none)) fd
  d_led_from : ∃ fd, FunD K "led_from" "led_from" (defArgs st_led_from) (defBody st_led_from) (defScope st_led_from) [] [] (He.fAd K ("led_from", none)) fd
  d_is_short_list : ∃ fd, FunD K "is_short_list" "is_short_list" (defArgs st_is_short_list) (defBody st_is_short_list) (defScope st_is_short_list) [] [] (He.fAd K ("is_short_list", none)) fd
  d_need_row_of : ∃ fd, FunD K "need_row_of" "need_row_of" (defArgs st_need_row_of) (defBody st_need_row_of) (defScope st_need_row_of) [] [] (He.fAd K ("need_row_of", none)) fd
  d_need_row : ∃ fd, FunD K "need_row" "need_row" (defArgs st_need_row) (defBody st_need_row) (defScope st_need_row) [] [] (He.fAd K ("need_row", none)) fd
  d_need_both : ∃ fd, FunD K "need_both" "need_both" (defArgs st_need_both) (defBody st_need_both) (defScope st_need_both) [] [] (He.fAd K ("need_both", none)) fd
  d_place_behind : ∃ fd, FunD K "place_behind" "place_behind" (defArgs st_place_behind) (defBody st_place_behind) (defScope st_place_behind) [] [] (He.fAd K ("place_behind", none)) fd
  d_places_reached : ∃ fd, FunD K "places_reached" "places_reached" (defArgs st_places_reached) (defBody st_places_reached) (defScope st_places_reached) [] [] (He.fAd K ("places_reached", none)) fd
  d_verdict_of : ∃ fd, FunD K "verdict_of" "verdict_of" (defArgs st_verdict_of) (defBody st_verdict_of) (defScope st_verdict_of) [] [] (He.fAd K ("verdict_of", none)) fd
  d_word_counts : ∃ fd, FunD K "word_counts" "word_counts" (defArgs st_word_counts) (defBody st_word_counts) (defScope st_word_counts) [] [] (He.fAd K ("word_counts", none)) fd
  d_shortest_rows : ∃ fd, FunD K "shortest_rows" "shortest_rows" (defArgs st_shortest_rows) (defBody st_shortest_rows) (defScope st_shortest_rows) [] [] (He.fAd K ("shortest_rows", none)) fd
  d_word_rows : ∃ fd, FunD K "word_rows" "word_rows" (defArgs st_word_rows) (defBody st_word_rows) (defScope st_word_rows) [] [] (He.fAd K ("word_rows", none)) fd
  d_Watch_eq : ∃ fd, FunD K "__eq__" "Watch.__eq__" (defArgs st_Watch_eq) (defBody st_Watch_eq) (defScope st_Watch_eq) [] [] (He.fAd K ("Watch", some "__eq__")) fd
  d_law : ∃ fd, FunD K "law" "law" (defArgs st_law) (defBody st_law) (defScope st_law) [] [] (He.fAd K ("law", none)) fd
  d_ItemError_init : ∃ fd, PyN.XInit P K (He.ga K "ItemError") "__init__" "ItemError.__init__" (defArgs st_ItemError_init) (defBody st_ItemError_init) (defScope st_ItemError_init) (He.ma K (He.ga K "ItemError") "__init__") fd ∧ fd.defaults = .none
  d_PartError_init : ∃ fd, PyN.XInit P K (He.ga K "PartError") "__init__" "PartError.__init__" (defArgs st_PartError_init) (defBody st_PartError_init) (defScope st_PartError_init) (He.ma K (He.ga K "PartError") "__init__") fd ∧ fd.defaults = .none
  d_Watch_moves : ∃ fd, FunD K "moves" "Watch.moves" (defArgs st_Watch_moves) (defBody st_Watch_moves) (defScope st_Watch_moves) [] [] (PyH.getAt "Watch" "moves" K) fd
  d_Watch_words : ∃ fd, FunD K "words" "Watch.words" (defArgs st_Watch_words) (defBody st_Watch_words) (defScope st_Watch_words) [] [] (PyH.getAt "Watch" "words" K) fd
  d_Watch_kinds : ∃ fd, FunD K "kinds" "Watch.kinds" (defArgs st_Watch_kinds) (defBody st_Watch_kinds) (defScope st_Watch_kinds) [] [] (PyH.getAt "Watch" "kinds" K) fd
  sup : (P.main.scope.names.lookup ("super" : Str)).isSome = false
  tb : ∀ p ∈ tf, LamX.TabB base mg (He.cT K p.1).1 (He.cT K p.1).2
section
variable {P : Program} {w : World} {K : PySem.W.Frag} {mg : Str → Option Value} {base : Heap}
theorem S_ItemError_init : NScope ["self", "index", "__class__"] ["self", "index"] ["__class__"] (defScope st_ItemError_init) := nscope_by (by decide +kernel)
theorem S_PartError_init : NScope ["self", "part", "__class__"] ["self", "part"] ["__class__"] (defScope st_PartError_init) := nscope_by (by decide +kernel)
theorem x_BadMoves (G : Gd P w K mg base) : CalX P w K mg base "BadMoves" "index" 1 ["self", "index"] := by
  obtain ⟨fd, F, hd⟩ := G.d_ItemError_init
  obtain ⟨z1, z2, z3⟩ := G.xi_BadMoves
  exact ⟨⟨_, _, fd, PyN.fn_excinit (k := 0) F S_ItemError_init rfl rfl rfl rfl G.sup G.f_super rfl rfl rfl (fun _ => rfl), xinit_binds F hd (fun cl kV doc pm an cdv ct us hl => match us, hl with | [_, _], _ => rfl), z1, z2, z3⟩, G.g_BadMoves⟩
theorem x_BadNumber (G : Gd P w K mg base) : CalX P w K mg base "BadNumber" "part" 1 ["self", "part"] := by
  obtain ⟨fd, F, hd⟩ := G.d_PartError_init
  obtain ⟨z1, z2, z3⟩ := G.xi_BadNumber
  exact ⟨⟨_, _, fd, PyN.fn_excinit (k := 0) F S_PartError_init rfl rfl rfl rfl G.sup G.f_super rfl rfl rfl (fun _ => rfl), xinit_binds F hd (fun cl kV doc pm an cdv ct us hl => match us, hl with | [_, _], _ => rfl), z1, z2, z3⟩, G.g_BadNumber⟩
theorem x_BadRow (G : Gd P w K mg base) : CalX P w K mg base "BadRow" "index" 1 ["self", "index"] := by
  obtain ⟨fd, F, hd⟩ := G.d_ItemError_init
  obtain ⟨z1, z2, z3⟩ := G.xi_BadRow
  exact ⟨⟨_, _, fd, PyN.fn_excinit (k := 0) F S_ItemError_init rfl rfl rfl rfl G.sup G.f_super rfl rfl rfl (fun _ => rfl), xinit_binds F hd (fun cl kV doc pm an cdv ct us hl => match us, hl with | [_, _], _ => rfl), z1, z2, z3⟩, G.g_BadRow⟩
theorem x_BadWords (G : Gd P w K mg base) : CalX P w K mg base "BadWords" "index" 1 ["self", "index"] := by
  obtain ⟨fd, F, hd⟩ := G.d_ItemError_init
  obtain ⟨z1, z2, z3⟩ := G.xi_BadWords
  exact ⟨⟨_, _, fd, PyN.fn_excinit (k := 0) F S_ItemError_init rfl rfl rfl rfl G.sup G.f_super rfl rfl rfl (fun _ => rfl), xinit_binds F hd (fun cl kV doc pm an cdv ct us hl => match us, hl with | [_, _], _ => rfl), z1, z2, z3⟩, G.g_BadWords⟩
theorem x_NoWatch (G : Gd P w K mg base) : CalX P w K mg base "NoWatch" "part" 1 ["self", "part"] := by
  obtain ⟨fd, F, hd⟩ := G.d_PartError_init
  obtain ⟨z1, z2, z3⟩ := G.xi_NoWatch
  exact ⟨⟨_, _, fd, PyN.fn_excinit (k := 0) F S_PartError_init rfl rfl rfl rfl G.sup G.f_super rfl rfl rfl (fun _ => rfl), xinit_binds F hd (fun cl kV doc pm an cdv ct us hl => match us, hl with | [_, _], _ => rfl), z1, z2, z3⟩, G.g_NoWatch⟩
theorem S__law_begun : FnScope ["script", "large", "grain"] ["script"] (defScope st__law_begun) := ⟨rfl, rfl, rfl, by decide +kernel, rfl, by decide +kernel, by decide +kernel⟩
theorem s__law_begun (G : Gd P w K mg base) : ∃ fd, FnA P w K mg base (Tt K) 1 (He.ga K "_law_begun") fd ["script"] W__law_begun ∧ FunD K "_law_begun" "_law_begun" (defArgs st__law_begun) (defBody st__law_begun) (defScope st__law_begun) [] [] (He.ga K "_law_begun") fd := by
  obtain ⟨fd, F⟩ := G.d__law_begun
  refine ⟨fd, fn_sound F S__law_begun rfl rfl (by decide) fun cdv A outer s H E W hr tk => ?_, F⟩
  exact sss_cons (ss_setLc (i := 1) (own := [("grain", 2)]) rfl S__law_begun.nd rfl (blkOk_by (by kernel_rfl)) (si_seq (se_var 0)) (fun _ _ _ _ _ => sg_name S__law_begun.nd (by decide)) (fun _ _ _ _ _ => sts_one (st_cmp (op_geS) (se_blt (ca_abs) rfl G.f_abs rfl (sa_cons (se_var 2) (sa_nil))) (se_bin op_powS (se_int) (se_int)) rfl)) (fun _ _ _ _ _ => se_bin op_subS (se_blt (ca_abs) rfl G.f_abs rfl (sa_cons (se_var 2) (sa_nil))) (se_bin op_powS (se_int) (se_int))))
    (sss_one (ss_ret (se_disp (sp_cons (se_str) (se_var 1) (sp_cons (se_str) (se_int) (sp_cons (se_str) (se_lc (own := [("grain", 2)]) rfl S__law_begun.nd (blkOk_by (by kernel_rfl)) (si_seq (se_var 0)) (fun _ _ _ _ _ => sg_name S__law_begun.nd (by decide)) (fun _ _ _ _ _ => sts_nil) (fun _ _ _ _ _ => se_blt (ca_abs) rfl G.f_abs rfl (sa_cons (se_var 2) (sa_nil)))) (sp_cons (se_str) (se_int) (sp_nil))))))))
theorem c__law_begun (G : Gd P w K mg base) : Cal P w K mg base (Tt K) "_law_begun" 1 ["script"] W__law_begun := by
  obtain ⟨fd, F1, F⟩ := s__law_begun G
  exact ⟨⟨fd, F1, F.bindsN fun _ _ _ _ _ _ us hl => match us, hl with | [_], _ => rfl⟩, G.g__law_begun, F.kp⟩
theorem S__law_caught : FnScope ["work", "found", "error"] ["work"] (defScope st__law_caught) := ⟨rfl, rfl, rfl, by decide +kernel, rfl, by decide +kernel, by decide +kernel⟩
theorem cf__law_caught (G : Gd P w K mg base) : CalF P w K mg base (Tt K) "_law_caught" 11 10 ["work"] W__law_caught := by
  obtain ⟨fd, F⟩ := G.d__law_caught
  refine ⟨⟨fd, fnF_sound F S__law_caught rfl rfl (by decide) fun Φ cdv A outer s H E W hr tk hΦ => ?_, F.bindsN fun _ _ _ _ _ _ us hl => match us, hl with | [_], _ => rfl⟩, G.g__law_caught, F.kp⟩
  exact sss_cons (ss_set (se_non) S__law_caught.nd)
    (sss_cons (ss_tryK G.et_WatchError rfl rfl rfl S__law_caught.nd G.g_WatchError tk (fun W pn xe tk hp => sss_one (ss_expr (se_callP0 hΦ rfl hr (by decide) tk))))
    (sss_one (ss_ret (se_var 1))))
theorem S__law_counted : FnScope ["watch", "length", "line", "found", "lap", "later", "place", "goal"] ["watch", "length"] (defScope st__law_counted) := ⟨rfl, rfl, rfl, by decide +kernel, rfl, by decide +kernel, by decide +kernel⟩
theorem s__law_counted (G : Gd P w K mg base) : ∃ fd, FnA P w K mg base (Tt K) 1 (He.ga K "_law_counted") fd ["watch", "length"] W__law_counted ∧ FunD K "_law_counted" "_law_counted" (defArgs st__law_counted) (defBody st__law_counted) (defScope st__law_counted) [] [] (He.ga K "_law_counted") fd := by
  obtain ⟨fd, F⟩ := G.d__law_counted
  refine ⟨fd, fn_sound F S__law_counted rfl rfl (by decide) fun cdv A outer s H E W hr tk => ?_, F⟩
  exact sss_cons (ss_par rfl S__law_counted.nd (by decide) (sa_cons (se_bltT (ca_dictP rfl) rfl G.f_dict rfl (sa_cons (se_lst (sa_cons (se_tup (sa_cons (se_int) (sa_cons (se_int) (sa_nil)))) (sa_nil))) (sa_nil))) (sa_cons (se_lst (sa_cons (se_int) (sa_cons (se_int) (sa_cons (se_int) (sa_cons (se_int) (sa_nil)))))) (sa_nil))))
    (sss_cons (ss_for (S := [4]) (passes_of rfl) rfl (si_range1 G.f_range (sa_cons (se_var 1) (sa_nil))) (sg_name S__law_counted.nd (by decide))
    (sss_cons (ss_set (se_dic0) S__law_counted.nd)
    (sss_cons (ss_lock (ss_for (S := [6]) (passes_of rfl) rfl (si_keys (se_var 2)) (sg_name S__law_counted.nd (by decide))
    (sss_one (ss_for (S := [7]) (passes_of rfl) rfl (si_seq (se_ix hr.u1 (se_ix hr.u1 (se_var 0) (se_int)) (se_var 6))) (sg_name S__law_counted.nd (by decide))
    (sss_one (ss_asg (S := []) (se_bin op_addS (se_mt PySem.F.plainAttrs_dict PySem.F.slot_dict_get PySem.F.type_dict_get (mt_getS hr.u1) (se_var 5) (sa_cons (se_var 7) (sa_cons (se_int) (sa_nil)))) (se_ix hr.u1 (se_var 2) (se_var 6))) (sg_ix hr.u1 (se_var 5) (se_var 7))))))))
    (sss_one (ss_set (se_var 5) S__law_counted.nd)))))
    (sss_cons (ss_lock (ss_for (S := [6]) (passes_of rfl) rfl (si_keys (se_var 2)) (sg_name S__law_counted.nd (by decide))
    (sss_one (ss_asg (S := []) (se_bin op_addS (se_ix hr.u1 (se_var 3) (se_ix hr.u1 (se_ix hr.u1 (se_var 0) (se_int)) (se_var 6))) (se_ix hr.u1 (se_var 2) (se_var 6))) (sg_ix hr.u1 (se_var 3) (se_ix hr.u1 (se_ix hr.u1 (se_var 0) (se_int)) (se_var 6)))))))
    (sss_one (ss_ret (se_bltT (ca_tuple) rfl G.f_tuple rfl (sa_cons (se_var 3) (sa_nil)))))))
theorem c__law_counted (G : Gd P w K mg base) : Cal P w K mg base (Tt K) "_law_counted" 1 ["watch", "length"] W__law_counted := by
  obtain ⟨fd, F1, F⟩ := s__law_counted G
  exact ⟨⟨fd, F1, F.bindsN fun _ _ _ _ _ _ us hl => match us, hl with | [_, _], _ => rfl⟩, G.g__law_counted, F.kp⟩
theorem S__law_blend : FnScope ["tape", "turn", "found", "great", "blended", "grain"] ["tape"] (defScope st__law_blend) := ⟨rfl, rfl, rfl, by decide +kernel, rfl, by decide +kernel, by decide +kernel⟩
theorem s__law_blend (G : Gd P w K mg base) : ∃ fd, FnA P w K mg base (Tt K) 1 (He.ga K "_law_blend") fd ["tape"] W__law_blend ∧ FunD K "_law_blend" "_law_blend" (defArgs st__law_blend) (defBody st__law_blend) (defScope st__law_blend) [] [] (He.ga K "_law_blend") fd := by
  obtain ⟨fd, F⟩ := G.d__law_blend
  refine ⟨fd, fn_sound F S__law_blend rfl rfl (by decide) fun cdv A outer s H E W hr tk => ?_, F⟩
  exact sss_cons (ss_asg (S := []) (se_bin op_addS (se_ix hr.u1 (se_var 0) (se_str)) (se_int)) (sg_ix hr.u1 (se_var 0) (se_str)))
    (sss_cons (ss_par rfl S__law_blend.nd (by decide) (sa_cons (se_bltT (ca_int) rfl G.f_int rfl (sa_cons (se_ix hr.u1 (se_var 0) (se_str)) (sa_nil))) (sa_cons (se_int) (sa_nil))))
    (sss_cons (ss_for (S := [3]) (passes_of rfl) rfl (si_seq (se_lst (sa_cons (se_int) (sa_cons (se_int) (sa_cons (se_int) (sa_nil)))))) (sg_name S__law_blend.nd (by decide))
    (sss_cons (ss_set (se_bin op_modS (se_bin op_addS (se_bin op_mulAllS (se_var 1) (se_int)) (se_bin op_fdivS (se_var 3) (se_int))) (se_var 3)) S__law_blend.nd)
    (sss_cons (ss_for (S := [5]) (passes_of rfl) rfl (si_seq (se_ix hr.u1 (se_var 0) (se_str))) (sg_name S__law_blend.nd (by decide))
    (sss_one (ss_set (se_bin op_modS (se_bin op_addS (se_bin op_mulAllS (se_var 4) (se_int)) (se_bltT (ca_int) rfl G.f_int rfl (sa_cons (se_var 5) (sa_nil)))) (se_var 3)) S__law_blend.nd)))
    (sss_one (ss_set (se_bin op_addS (se_bin op_mulAllS (se_var 2) (se_int)) (se_bin op_modS (se_bin op_powS (se_var 4) (se_int)) (se_var 3))) S__law_blend.nd)))))
    (sss_one (ss_ret (se_var 2)))))
theorem c__law_blend (G : Gd P w K mg base) : Cal P w K mg base (Tt K) "_law_blend" 1 ["tape"] W__law_blend := by
  obtain ⟨fd, F1, F⟩ := s__law_blend G
  exact ⟨⟨fd, F1, F.bindsN fun _ _ _ _ _ _ us hl => match us, hl with | [_], _ => rfl⟩, G.g__law_blend, F.kp⟩
theorem S__law_draw : FnScope ["tape", "size", "found"] ["tape", "size"] (defScope st__law_draw) := ⟨rfl, rfl, rfl, by decide +kernel, rfl, by decide +kernel, by decide +kernel⟩
theorem s__law_draw (G : Gd P w K mg base) : ∃ fd, FnA P w K mg base (Tt K) 2 (He.ga K "_law_draw") fd ["tape", "size"] W__law_draw ∧ FunD K "_law_draw" "_law_draw" (defArgs st__law_draw) (defBody st__law_draw) (defScope st__law_draw) [] [] (He.ga K "_law_draw") fd := by
  have c__law_blend := c__law_blend G
  obtain ⟨fd, F⟩ := G.d__law_draw
  refine ⟨fd, fn_sound F S__law_draw rfl rfl (by decide) fun cdv A outer s H E W hr tk => ?_, F⟩
  exact sss_cons (ss_if (st_cmp (op_eqS hr.units) (se_ix hr.u1 (se_var 0) (se_str)) (se_int) rfl)
    (sss_one (ss_asg (S := []) (se_if (st_cmp (op_neS hr.units) (se_ix hr.u1 (se_var 0) (se_str)) (se_lst (sa_nil)) rfl) (se_mt PySem.F.plainAttrs_list PySem.F.slot_list_pop PySem.F.type_list_pop (mt_popAtS) (se_ix hr.u1 (se_var 0) (se_str)) (sa_cons (se_int) (sa_nil))) (se_call c__law_blend hr (by decide) tk (sa_cons (se_var 0) (sa_nil)))) (sg_ix hr.u1 (se_var 0) (se_str))))
    (sss_nil))
    (sss_cons (ss_set (se_bin op_modS (se_bltT (ca_int) rfl G.f_int rfl (sa_cons (se_ix hr.u1 (se_var 0) (se_str)) (sa_nil))) (se_var 1)) S__law_draw.nd)
    (sss_cons (ss_asg (S := []) (se_bin op_fdivS (se_bltT (ca_int) rfl G.f_int rfl (sa_cons (se_ix hr.u1 (se_var 0) (se_str)) (sa_nil))) (se_var 1)) (sg_ix hr.u1 (se_var 0) (se_str)))
    (sss_one (ss_ret (se_var 2)))))
theorem c__law_draw (G : Gd P w K mg base) : Cal P w K mg base (Tt K) "_law_draw" 2 ["tape", "size"] W__law_draw := by
  obtain ⟨fd, F1, F⟩ := s__law_draw G
  exact ⟨⟨fd, F1, F.bindsN fun _ _ _ _ _ _ us hl => match us, hl with | [_, _], _ => rfl⟩, G.g__law_draw, F.kp⟩
theorem S__law_first_rows : FnScope ["watch", "found", "line", "seen", "lap", "row", "place", "later", "kind", "goal"] ["watch"] (defScope st__law_first_rows) := ⟨rfl, rfl, rfl, by decide +kernel, rfl, by decide +kernel, by decide +kernel⟩
theorem s__law_first_rows (G : Gd P w K mg base) : ∃ fd, FnA P w K mg base (Tt K) 1 (He.ga K "_law_first_rows") fd ["watch"] W__law_first_rows ∧ FunD K "_law_first_rows" "_law_first_rows" (defArgs st__law_first_rows) (defBody st__law_first_rows) (defScope st__law_first_rows) [] [] (He.ga K "_law_first_rows") fd := by
  obtain ⟨fd, F⟩ := G.d__law_first_rows
  refine ⟨fd, fn_sound F S__law_first_rows rfl rfl (by decide) fun cdv A outer s H E W hr tk => ?_, F⟩
  exact sss_cons (ss_par3 rfl S__law_first_rows.nd (by decide) (by decide) (by decide) (sa_cons (se_lst (sa_cons (se_non) (sa_cons (se_non) (sa_cons (se_non) (sa_cons (se_non) (sa_nil)))))) (sa_cons (se_lst (sa_cons (se_tup (sa_cons (se_tup (sa_nil)) (sa_cons (se_int) (sa_nil)))) (sa_nil))) (sa_cons (se_lst (sa_cons (se_int) (sa_nil))) (sa_nil)))))
    (sss_cons (ss_for (S := [4]) (passes_of rfl) rfl (si_range1 G.f_range (sa_cons (se_int) (sa_nil))) (sg_name S__law_first_rows.nd (by decide))
    (sss_cons (ss_for (S := [5, 6]) (passes_of rfl) rfl (si_seq (se_var 2)) (sg_tup rfl (sgs_cons (sg_name S__law_first_rows.nd (by decide)) (sgs_cons (sg_name S__law_first_rows.nd (by decide)) (sgs_nil))))
    (sss_one (ss_if (st_cmp (op_isNS) (se_ix hr.u1 (se_var 1) (se_ix hr.u1 (se_ix hr.u1 (se_var 0) (se_int)) (se_var 6))) (se_non) rfl)
    (sss_one (ss_asg (S := []) (se_var 5) (sg_ix hr.u1 (se_var 1) (se_ix hr.u1 (se_ix hr.u1 (se_var 0) (se_int)) (se_var 6)))))
    (sss_nil))))
    (sss_cons (ss_set (se_lst (sa_nil)) S__law_first_rows.nd)
    (sss_cons (ss_for (S := [5, 6]) (passes_of rfl) rfl (si_seq (se_var 2)) (sg_tup rfl (sgs_cons (sg_name S__law_first_rows.nd (by decide)) (sgs_cons (sg_name S__law_first_rows.nd (by decide)) (sgs_nil))))
    (sss_one (ss_for (S := [8, 9]) (passes_of rfl) rfl (si_enum G.f_enumerate (sa_cons (se_ix hr.u1 (se_ix hr.u1 (se_var 0) (se_int)) (se_var 6)) (sa_nil))) (sg_tup rfl (sgs_cons (sg_name S__law_first_rows.nd (by decide)) (sgs_cons (sg_name S__law_first_rows.nd (by decide)) (sgs_nil))))
    (sss_one (ss_if (st_cmp (op_notInAllS hr.u65) (se_var 9) (se_var 3) rfl)
    (sss_cons (ss_expr (se_mt PySem.F.plainAttrs_list PySem.F.slot_list_append PySem.F.type_list_append (mt_appendS) (se_var 3) (sa_cons (se_var 9) (sa_nil))))
    (sss_one (ss_expr (se_mt PySem.F.plainAttrs_list PySem.F.slot_list_append PySem.F.type_list_append (mt_appendS) (se_var 7) (sa_cons (se_tup (sa_cons (se_bin op_addS (se_var 5) (se_tup (sa_cons (se_var 8) (sa_nil)))) (sa_cons (se_var 9) (sa_nil)))) (sa_nil))))))
    (sss_nil))))))
    (sss_one (ss_set (se_var 7) S__law_first_rows.nd))))))
    (sss_one (ss_ret (se_tup (sa_cons (se_bltT (ca_tupleF) rfl G.f_tuple rfl (sa_cons (se_var 1) (sa_nil))) (sa_cons (se_bltT (ca_tuple) rfl G.f_tuple rfl (sa_cons (se_blt (ca_sorted) rfl G.f_sorted rfl (sa_cons (se_var 3) (sa_nil))) (sa_nil))) (sa_nil)))))))
theorem c__law_first_rows (G : Gd P w K mg base) : Cal P w K mg base (Tt K) "_law_first_rows" 1 ["watch"] W__law_first_rows := by
  obtain ⟨fd, F1, F⟩ := s__law_first_rows G
  exact ⟨⟨fd, F1, F.bindsN fun _ _ _ _ _ _ us hl => match us, hl with | [_], _ => rfl⟩, G.g__law_first_rows, F.kp⟩
theorem S__law_watch : FnScope ["tape", "places", "kinds", "words", "many", "moves", "place", "kind"] ["tape", "places", "kinds", "words"] (defScope st__law_watch) := ⟨rfl, rfl, rfl, by decide +kernel, rfl, by decide +kernel, by decide +kernel⟩
theorem s__law_watch (G : Gd P w K mg base) : ∃ fd, FnA P w K mg base (Tt K) 3 (He.ga K "_law_watch") fd ["tape", "places", "kinds", "words"] W__law_watch ∧ FunD K "_law_watch" "_law_watch" (defArgs st__law_watch) (defBody st__law_watch) (defScope st__law_watch) [] [] (He.ga K "_law_watch") fd := by
  have c__law_draw := c__law_draw G
  obtain ⟨fd, F⟩ := G.d__law_watch
  refine ⟨fd, fn_sound F S__law_watch rfl rfl (by decide) fun cdv A outer s H E W hr tk => ?_, F⟩
  exact sss_cons (ss_set (se_bin op_addS (se_int) (se_call c__law_draw hr (by decide) tk (sa_cons (se_var 0) (sa_cons (se_var 1) (sa_nil))))) S__law_watch.nd)
    (sss_cons (ss_set (se_bltT (ca_tuple) rfl G.f_tuple rfl (sa_cons (se_lc (own := [("place", 6)]) rfl S__law_watch.nd (blkOk_by (by kernel_rfl)) (si_range1 G.f_range (sa_cons (se_var 4) (sa_nil))) (fun _ _ _ _ _ => sg_name S__law_watch.nd (by decide)) (fun _ _ _ _ _ => sts_nil) (fun _ _ _ _ _ => se_bltT (ca_tuple) rfl G.f_tuple rfl (sa_cons (se_lc (own := [("kind", 7)]) rfl S__law_watch.nd (blkOk_by (by kernel_rfl)) (si_range1 G.f_range (sa_cons (se_var 2) (sa_nil))) (fun _ _ _ _ _ => sg_name S__law_watch.nd (by decide)) (fun _ _ _ _ _ => sts_nil) (fun _ _ _ _ _ => se_call c__law_draw hr (by decide) takes0 (sa_cons (se_var 0) (sa_cons (se_var 4) (sa_nil))))) (sa_nil)))) (sa_nil))) S__law_watch.nd)
    (sss_one (ss_ret (se_tup (sa_cons (se_var 5) (sa_cons (se_bltT (ca_tuple) rfl G.f_tuple rfl (sa_cons (se_lc (own := [("place", 6)]) rfl S__law_watch.nd (blkOk_by (by kernel_rfl)) (si_range1 G.f_range (sa_cons (se_var 4) (sa_nil))) (fun _ _ _ _ _ => sg_name S__law_watch.nd (by decide)) (fun _ _ _ _ _ => sts_nil) (fun _ _ _ _ _ => se_call c__law_draw hr (by decide) takes0 (sa_cons (se_var 0) (sa_cons (se_var 3) (sa_nil))))) (sa_nil))) (sa_nil)))))))
theorem c__law_watch (G : Gd P w K mg base) : Cal P w K mg base (Tt K) "_law_watch" 3 ["tape", "places", "kinds", "words"] W__law_watch := by
  obtain ⟨fd, F1, F⟩ := s__law_watch G
  exact ⟨⟨fd, F1, F.bindsN fun _ _ _ _ _ _ us hl => match us, hl with | [_, _, _, _], _ => rfl⟩, G.g__law_watch, F.kp⟩
theorem S__law_form : FnScope ["tape", "places", "way", "kinds", "many", "moves", "spot", "kind"] ["tape", "places"] (defScope st__law_form) := ⟨rfl, rfl, rfl, by decide +kernel, rfl, by decide +kernel, by decide +kernel⟩
theorem s__law_form (G : Gd P w K mg base) : ∃ fd, FnA P w K mg base (Tt K) 4 (He.ga K "_law_form") fd ["tape", "places"] W__law_form ∧ FunD K "_law_form" "_law_form" (defArgs st__law_form) (defBody st__law_form) (defScope st__law_form) [] [] (He.ga K "_law_form") fd := by
  have c__law_draw := c__law_draw G
  have c__law_watch := c__law_watch G
  obtain ⟨fd, F⟩ := G.d__law_form
  refine ⟨fd, fn_sound F S__law_form rfl rfl (by decide) fun cdv A outer s H E W hr tk => ?_, F⟩
  exact sss_cons (ss_asg (S := [2, 3]) (se_tup (sa_cons (se_call c__law_draw hr (by decide) tk (sa_cons (se_var 0) (sa_cons (se_int) (sa_nil)))) (sa_cons (se_bin op_addS (se_int) (se_call c__law_draw hr (by decide) tk (sa_cons (se_var 0) (sa_cons (se_int) (sa_nil))))) (sa_nil)))) (sg_tup rfl (sgs_cons (sg_name S__law_form.nd (by decide)) (sgs_cons (sg_name S__law_form.nd (by decide)) (sgs_nil)))))
    (sss_cons (ss_if (st_cmp (op_eqS hr.units) (se_var 2) (se_int) rfl)
    (sss_cons (ss_set (se_bin op_addS (se_int) (se_call c__law_draw hr (by decide) tk (sa_cons (se_var 0) (sa_cons (se_bin op_subS (se_var 1) (se_int)) (sa_nil))))) S__law_form.nd)
    (sss_cons (ss_set (se_bltT (ca_tuple) rfl G.f_tuple rfl (sa_cons (se_lc (own := [("spot", 6)]) rfl S__law_form.nd (blkOk_by (by kernel_rfl)) (si_range1 G.f_range (sa_cons (se_var 4) (sa_nil))) (fun _ _ _ _ _ => sg_name S__law_form.nd (by decide)) (fun _ _ _ _ _ => sts_nil) (fun _ _ _ _ _ => se_bltT (ca_tuple) rfl G.f_tuple rfl (sa_cons (se_lc (own := [("kind", 7)]) rfl S__law_form.nd (blkOk_by (by kernel_rfl)) (si_range1 G.f_range (sa_cons (se_var 3) (sa_nil))) (fun _ _ _ _ _ => sg_name S__law_form.nd (by decide)) (fun _ _ _ _ _ => sts_nil) (fun _ _ _ _ _ => se_blt (ca_min2 rfl) rfl G.f_min rfl (sa_cons (se_bin op_addS (se_var 6) (se_call c__law_draw hr (by decide) takes0 (sa_cons (se_var 0) (sa_cons (se_int) (sa_nil))))) (sa_cons (se_bin op_subS (se_var 4) (se_int)) (sa_nil))))) (sa_nil)))) (sa_nil))) S__law_form.nd)
    (sss_one (ss_ret (se_tup (sa_cons (se_var 5) (sa_cons (se_bltT (ca_tuple) rfl G.f_tuple rfl (sa_cons (se_lc (own := [("spot", 6)]) rfl S__law_form.nd (blkOk_by (by kernel_rfl)) (si_range1 G.f_range (sa_cons (se_var 4) (sa_nil))) (fun _ _ _ _ _ => sg_name S__law_form.nd (by decide)) (fun _ _ _ _ _ => sts_nil) (fun _ _ _ _ _ => se_call c__law_draw hr (by decide) takes0 (sa_cons (se_var 0) (sa_cons (se_int) (sa_nil))))) (sa_nil))) (sa_nil))))))))
    (sss_nil))
    (sss_cons (ss_if (st_cmp (op_eqS hr.units) (se_var 2) (se_int) rfl)
    (sss_cons (ss_set (se_bin op_addS (se_int) (se_call c__law_draw hr (by decide) tk (sa_cons (se_var 0) (sa_cons (se_bin op_subS (se_var 1) (se_int)) (sa_nil))))) S__law_form.nd)
    (sss_cons (ss_set (se_bltT (ca_tuple) rfl G.f_tuple rfl (sa_cons (se_lc (own := [("spot", 6)]) rfl S__law_form.nd (blkOk_by (by kernel_rfl)) (si_range1 G.f_range (sa_cons (se_var 4) (sa_nil))) (fun _ _ _ _ _ => sg_name S__law_form.nd (by decide)) (fun _ _ _ _ _ => sts_nil) (fun _ _ _ _ _ => se_bltT (ca_tuple) rfl G.f_tuple rfl (sa_cons (se_lc (own := [("kind", 7)]) rfl S__law_form.nd (blkOk_by (by kernel_rfl)) (si_range1 G.f_range (sa_cons (se_var 3) (sa_nil))) (fun _ _ _ _ _ => sg_name S__law_form.nd (by decide)) (fun _ _ _ _ _ => sts_nil) (fun _ _ _ _ _ => se_bin op_modS (se_bltT (ca_int) rfl G.f_int rfl (sa_cons (se_bin op_addS (se_bin op_addS (se_var 6) (se_int)) (se_call c__law_draw hr (by decide) takes0 (sa_cons (se_var 0) (sa_cons (se_int) (sa_nil))))) (sa_nil))) (se_var 4))) (sa_nil)))) (sa_nil))) S__law_form.nd)
    (sss_one (ss_ret (se_tup (sa_cons (se_var 5) (sa_cons (se_bltT (ca_tuple) rfl G.f_tuple rfl (sa_cons (se_lc (own := [("spot", 6)]) rfl S__law_form.nd (blkOk_by (by kernel_rfl)) (si_range1 G.f_range (sa_cons (se_var 4) (sa_nil))) (fun _ _ _ _ _ => sg_name S__law_form.nd (by decide)) (fun _ _ _ _ _ => sts_nil) (fun _ _ _ _ _ => se_call c__law_draw hr (by decide) takes0 (sa_cons (se_var 0) (sa_cons (se_int) (sa_nil))))) (sa_nil))) (sa_nil))))))))
    (sss_nil))
    (sss_one (ss_ret (se_call c__law_watch hr (by decide) tk (sa_cons (se_var 0) (sa_cons (se_var 1) (sa_cons (se_var 3) (sa_cons (se_if (st_cmp (op_ltS) (se_var 2) (se_int) rfl) (se_int) (se_int)) (sa_nil))))))))))
theorem c__law_form (G : Gd P w K mg base) : Cal P w K mg base (Tt K) "_law_form" 4 ["tape", "places"] W__law_form := by
  obtain ⟨fd, F1, F⟩ := s__law_form G
  exact ⟨⟨fd, F1, F.bindsN fun _ _ _ _ _ _ us hl => match us, hl with | [_, _], _ => rfl⟩, G.g__law_form, F.kp⟩
theorem S_first_wrong : FnScope ["several", "fits", "index", "item"] ["several", "fits"] (defScope st_first_wrong) := ⟨rfl, rfl, rfl, by decide +kernel, rfl, by decide +kernel, by decide +kernel⟩
theorem cf_first_wrong (G : Gd P w K mg base) : CalF P w K mg base (Tt K) "first_wrong" 5 4 ["several", "fits"] W_first_wrong := by
  obtain ⟨fd, F⟩ := G.d_first_wrong
  refine ⟨⟨fd, fnF_sound F S_first_wrong rfl rfl (by decide) fun Φ cdv A outer s H E W hr tk hΦ => ?_, F.bindsN fun _ _ _ _ _ _ us hl => match us, hl with | [_, _], _ => rfl⟩, G.g_first_wrong, F.kp⟩
  exact sss_cons (ss_for (S := [2, 3]) (passes_of rfl) rfl (si_enum G.f_enumerate (sa_cons (se_var 0) (sa_nil))) (sg_tup rfl (sgs_cons (sg_name S_first_wrong.nd (by decide)) (sgs_cons (sg_name S_first_wrong.nd (by decide)) (sgs_nil))))
    (sss_one (ss_if (st_not (st_val (se_callP hΦ rfl hr (by decide) tk (sa_cons (se_var 3) (sa_nil)))))
    (sss_one (ss_ret (se_var 2)))
    (sss_nil))))
    (sss_one (ss_ret (se_non)))
theorem S_is_list : FnScope ["thing"] ["thing"] (defScope st_is_list) := ⟨rfl, rfl, rfl, by decide +kernel, rfl, by decide +kernel, by decide +kernel⟩
theorem s_is_list (G : Gd P w K mg base) : ∃ fd, FnA P w K mg base (Tt K) 1 (He.ga K "is_list") fd ["thing"] W_is_list ∧ FunD K "is_list" "is_list" (defArgs st_is_list) (defBody st_is_list) (defScope st_is_list) [] [] (He.ga K "is_list") fd := by
  obtain ⟨fd, F⟩ := G.d_is_list
  refine ⟨fd, fn_sound F S_is_list rfl rfl (by decide) fun cdv A outer s H E W hr tk => ?_, F⟩
  exact sss_one (ss_ret (se_blt (ca_isi G.kt) rfl G.f_isinstance rfl (sa_cons (se_var 0) (sa_cons (se_tup (sa_cons (se_bty rfl G.f_list rfl) (sa_cons (se_bty rfl G.f_tuple rfl) (sa_nil)))) (sa_nil)))))
theorem c_is_list (G : Gd P w K mg base) : Cal P w K mg base (Tt K) "is_list" 1 ["thing"] W_is_list := by
  obtain ⟨fd, F1, F⟩ := s_is_list G
  exact ⟨⟨fd, F1, F.bindsN fun _ _ _ _ _ _ us hl => match us, hl with | [_], _ => rfl⟩, G.g_is_list, F.kp⟩
theorem S_is_number : FnScope ["thing"] ["thing"] (defScope st_is_number) := ⟨rfl, rfl, rfl, by decide +kernel, rfl, by decide +kernel, by decide +kernel⟩
theorem s_is_number (G : Gd P w K mg base) : ∃ fd, FnA P w K mg base (Tt K) 1 (He.ga K "is_number") fd ["thing"] W_is_number ∧ FunD K "is_number" "is_number" (defArgs st_is_number) (defBody st_is_number) (defScope st_is_number) [] [] (He.ga K "is_number") fd := by
  obtain ⟨fd, F⟩ := G.d_is_number
  refine ⟨fd, fn_sound F S_is_number rfl rfl (by decide) fun cdv A outer s H E W hr tk => ?_, F⟩
  exact sss_one (ss_ret (se_and (se_blt (ca_isi G.kt) rfl G.f_isinstance rfl (sa_cons (se_var 0) (sa_cons (se_bty rfl G.f_int rfl) (sa_nil)))) (se_one (se_not (se_blt (ca_isi G.kt) rfl G.f_isinstance rfl (sa_cons (se_var 0) (sa_cons (se_bty rfl G.f_bool rfl) (sa_nil))))))))
theorem c_is_number (G : Gd P w K mg base) : Cal P w K mg base (Tt K) "is_number" 1 ["thing"] W_is_number := by
  obtain ⟨fd, F1, F⟩ := s_is_number G
  exact ⟨⟨fd, F1, F.bindsN fun _ _ _ _ _ _ us hl => match us, hl with | [_], _ => rfl⟩, G.g_is_number, F.kp⟩
theorem S_is_between : FnScope ["thing", "low", "high"] ["thing", "low", "high"] (defScope st_is_between) := ⟨rfl, rfl, rfl, by decide +kernel, rfl, by decide +kernel, by decide +kernel⟩
theorem s_is_between (G : Gd P w K mg base) : ∃ fd, FnA P w K mg base (Tt K) 2 (He.ga K "is_between") fd ["thing", "low", "high"] W_is_between ∧ FunD K "is_between" "is_between" (defArgs st_is_between) (defBody st_is_between) (defScope st_is_between) [] [] (He.ga K "is_between") fd := by
  have c_is_number := c_is_number G
  obtain ⟨fd, F⟩ := G.d_is_between
  refine ⟨fd, fn_sound F S_is_between rfl rfl (by decide) fun cdv A outer s H E W hr tk => ?_, F⟩
  exact sss_one (ss_ret (se_and (se_call c_is_number hr (by decide) tk (sa_cons (se_var 0) (sa_nil))) (se_one (se_chain (op_leS) (op_leS) (se_var 1) (se_var 0) (se_var 2)))))
theorem c_is_between (G : Gd P w K mg base) : Cal P w K mg base (Tt K) "is_between" 2 ["thing", "low", "high"] W_is_between := by
  obtain ⟨fd, F1, F⟩ := s_is_between G
  exact ⟨⟨fd, F1, F.bindsN fun _ _ _ _ _ _ us hl => match us, hl with | [_, _, _], _ => rfl⟩, G.g_is_between, F.kp⟩
theorem S_is_line : FnScope ["thing", "kinds", "places", "item"] ["thing", "kinds", "places"] (defScope st_is_line) := ⟨rfl, rfl, rfl, by decide +kernel, rfl, by decide +kernel, by decide +kernel⟩
theorem s_is_line (G : Gd P w K mg base) : ∃ fd, FnA P w K mg base (Tt K) 3 (He.ga K "is_line") fd ["thing", "kinds", "places"] W_is_line ∧ FunD K "is_line" "is_line" (defArgs st_is_line) (defBody st_is_line) (defScope st_is_line) [] [] (He.ga K "is_line") fd := by
  have c_is_between := c_is_between G
  have c_is_list := c_is_list G
  obtain ⟨fd, F⟩ := G.d_is_line
  refine ⟨fd, fn_sound F S_is_line rfl rfl (by decide) fun cdv A outer s H E W hr tk => ?_, F⟩
  exact sss_cons (ss_if (PW.pt (sw_or (st_not (st_val (se_call c_is_list hr (by decide) tk (sa_cons (se_var 0) (sa_nil))))) (sw_or1 (st_cmp (op_neS hr.units) (se_blt (ca_len) rfl G.f_len rfl (sa_cons (se_var 0) (sa_nil))) (se_var 1) rfl))))
    (sss_one (ss_ret (se_bl)))
    (sss_nil))
    (sss_one (ss_ret (se_blt (ca_all rfl) rfl G.f_all rfl (sa_cons (se_lc (own := [("item", 3)]) rfl S_is_line.nd (blkOk_by (by kernel_rfl)) (si_seq (se_var 0)) (fun _ _ _ _ _ => sg_name S_is_line.nd (by decide)) (fun _ _ _ _ _ => sts_nil) (fun _ _ _ _ _ => se_call c_is_between hr (by decide) takes0 (sa_cons (se_var 3) (sa_cons (se_int) (sa_cons (se_bin op_subS (se_var 2) (se_int)) (sa_nil)))))) (sa_nil)))))
theorem c_is_line (G : Gd P w K mg base) : Cal P w K mg base (Tt K) "is_line" 3 ["thing", "kinds", "places"] W_is_line := by
  obtain ⟨fd, F1, F⟩ := s_is_line G
  exact ⟨⟨fd, F1, F.bindsN fun _ _ _ _ _ _ us hl => match us, hl with | [_, _, _], _ => rfl⟩, G.g_is_line, F.kp⟩
theorem S_need_moves_lam0 : NScope ["line", "first", "moves"] ["line"] ["first", "moves"] d_need_moves_lam0.scope := nscope_by (by decide +kernel)
theorem lo_need_moves_lam0 (G : Gd P w K mg base) : LamOk P w K mg base (Tt K) 3 d_need_moves_lam0 ["line", "first", "moves"] ["line"] ["first", "moves"] 1 3 B_need_moves_lam0 := by
  have c_is_line := c_is_line G
  refine ⟨S_need_moves_lam0, rfl, rfl, fun cl pm cv ctv us hl => match us, hl with | [_], _ => rfl, fun cl f c A outer s H E W hr tk => ?_⟩
  exact se_call c_is_line hr (by decide) tk (sa_cons (se_var 0) (sa_cons (se_blt (ca_len) rfl G.f_len rfl (sa_cons (se_var 1) (sa_nil))) (sa_cons (se_blt (ca_len) rfl G.f_len rfl (sa_cons (se_var 2) (sa_nil))) (sa_nil))))
theorem S_need_moves : FnScope ["moves", "first", "index"] ["moves"] (defScope st_need_moves) := ⟨rfl, rfl, rfl, by decide +kernel, rfl, by decide +kernel, by decide +kernel⟩
theorem s_need_moves (G : Gd P w K mg base) : ∃ fd, FnA P w K mg base (Tt K) 6 (He.ga K "need_moves") fd ["moves"] W_need_moves ∧ FunD K "need_moves" "need_moves" (defArgs st_need_moves) (defBody st_need_moves) (defScope st_need_moves) [] [] (He.ga K "need_moves") fd := by
  have c_is_list := c_is_list G
  have cf_first_wrong := cf_first_wrong G
  have x_BadMoves := x_BadMoves G
  have lo_need_moves_lam0 := lo_need_moves_lam0 G
  obtain ⟨fd, F⟩ := G.d_need_moves
  refine ⟨fd, fn_soundC (p := ("need_moves", none)) F S_need_moves rfl rfl (by decide) fun cdv A outer s H E W hcdv hr tk => ?_, F⟩
  refine sss_cons (ss_if (PW.pt (sw_or (st_not (st_val (se_call c_is_list hr (by decide) tk (sa_cons (se_var 0) (sa_nil))))) (sw_or1 (st_not (st_chain (op_leS) (op_leS) (se_int) (se_blt (ca_len) rfl G.f_len rfl (sa_cons (se_var 0) (sa_nil))) (se_gint rfl G.c_MOST_PLACES))))))
    (sss_one (ss_raise1 x_BadMoves rfl hr (by decide) tk (se_non)))
    (sss_nil))
    (sss_cons (ss_set (se_ix hr.u1 (se_var 0) (se_int)) S_need_moves.nd)
    (sss_cons (ss_if (PW.pt (sw_or (st_not (st_val (se_call c_is_list hr (by decide) tk (sa_cons (se_var 1) (sa_nil))))) (sw_or1 (st_not (st_chain (op_leS) (op_leS) (se_int) (se_blt (ca_len) rfl G.f_len rfl (sa_cons (se_var 1) (sa_nil))) (se_gint rfl G.c_MOST_KINDS))))))
    (sss_one (ss_raise1 x_BadMoves rfl hr (by decide) tk (se_int)))
    (sss_nil))
    (sss_cons (ss_set (se_callL1 cf_first_wrong hr (by decide) rfl tk pNo_ok ?la_need_moves_lam0 lo_need_moves_lam0 (se_var 0)) S_need_moves.nd)
    (sss_one (ss_if (st_cmp (op_notNS) (se_var 2) (se_non) rfl)
    (sss_one (ss_raise1 x_BadMoves rfl hr (by decide) tk (se_var 2)))
    (sss_nil))))))
  case la_need_moves_lam0 =>
    have h0 : tf[0]? = some ((("need_moves", none) : He.Defn), lamQ "need_moves") := rfl
    have hm := List.mem_of_getElem? h0
    have h1 := G.tb _ hm
    have h2 := tabNB_ok G.tabs hm
    refine lamAt_by h1 hcdv h2.1 h2.2 ?a ?b (sc := defScope st_need_moves) ?c (fr := ["first", "moves"]) ?d ?e
    case a => exact lamQ_eq _ _ _ _ _
    case b => rfl
    case c => rfl
    case d => decide +kernel
    case e => rfl
theorem c_need_moves (G : Gd P w K mg base) : Cal P w K mg base (Tt K) "need_moves" 6 ["moves"] W_need_moves := by
  obtain ⟨fd, F1, F⟩ := s_need_moves G
  exact ⟨⟨fd, F1, F.bindsN fun _ _ _ _ _ _ us hl => match us, hl with | [_], _ => rfl⟩, G.g_need_moves, F.kp⟩
theorem S_is_word : FnScope ["thing"] ["thing"] (defScope st_is_word) := ⟨rfl, rfl, rfl, by decide +kernel, rfl, by decide +kernel, by decide +kernel⟩
theorem s_is_word (G : Gd P w K mg base) : ∃ fd, FnA P w K mg base (Tt K) 3 (He.ga K "is_word") fd ["thing"] W_is_word ∧ FunD K "is_word" "is_word" (defArgs st_is_word) (defBody st_is_word) (defScope st_is_word) [] [] (He.ga K "is_word") fd := by
  have c_is_between := c_is_between G
  obtain ⟨fd, F⟩ := G.d_is_word
  refine ⟨fd, fn_sound F S_is_word rfl rfl (by decide) fun cdv A outer s H E W hr tk => ?_, F⟩
  exact sss_one (ss_ret (se_call c_is_between hr (by decide) tk (sa_cons (se_var 0) (sa_cons (se_int) (sa_cons (se_gint rfl G.c_MOST_WORD) (sa_nil))))))
theorem c_is_word (G : Gd P w K mg base) : Cal P w K mg base (Tt K) "is_word" 3 ["thing"] W_is_word := by
  obtain ⟨fd, F1, F⟩ := s_is_word G
  exact ⟨⟨fd, F1, F.bindsN fun _ _ _ _ _ _ us hl => match us, hl with | [_], _ => rfl⟩, G.g_is_word, F.kp⟩
theorem ph_Phi_is_word (G : Gd P w K mg base) : ∀ y F, Phi_is_word y F → ∀ fs s H, CloOk P w K mg base (Tt K) 4 fs s H y F := fun y F hy fs s H => by
  unfold Phi_is_word at hy
  rcases hy with ⟨e1, e2⟩
  · subst e1 e2
    exact gf_ok ((c_is_word G).mono (by decide)) (fnAtK G.d_is_word)
theorem S_need_words : FnScope ["words", "many", "index"] ["words", "many"] (defScope st_need_words) := ⟨rfl, rfl, rfl, by decide +kernel, rfl, by decide +kernel, by decide +kernel⟩
theorem s_need_words (G : Gd P w K mg base) : ∃ fd, FnA P w K mg base (Tt K) 6 (He.ga K "need_words") fd ["words", "many"] W_need_words ∧ FunD K "need_words" "need_words" (defArgs st_need_words) (defBody st_need_words) (defScope st_need_words) [] [] (He.ga K "need_words") fd := by
  have c_is_list := c_is_list G
  have cf_first_wrong := cf_first_wrong G
  have x_BadWords := x_BadWords G
  obtain ⟨fd, F⟩ := G.d_need_words
  refine ⟨fd, fn_sound F S_need_words rfl rfl (by decide) fun cdv A outer s H E W hr tk => ?_, F⟩
  exact sss_cons (ss_if (PW.pt (sw_or (st_not (st_val (se_call c_is_list hr (by decide) tk (sa_cons (se_var 0) (sa_nil))))) (sw_or1 (st_cmp (op_neS hr.units) (se_blt (ca_len) rfl G.f_len rfl (sa_cons (se_var 0) (sa_nil))) (se_var 1) rfl))))
    (sss_one (ss_raise1 x_BadWords rfl hr (by decide) tk (se_non)))
    (sss_nil))
    (sss_cons (ss_set (se_call (CalF.cal cf_first_wrong (ph_Phi_is_word G)) hr (by decide) tk (sa_cons (se_var 0) (sa_cons (se_glob rfl G.g_is_word) (sa_nil)))) S_need_words.nd)
    (sss_one (ss_if (st_cmp (op_notNS) (se_var 2) (se_non) rfl)
    (sss_one (ss_raise1 x_BadWords rfl hr (by decide) tk (se_var 2)))
    (sss_nil))))
theorem c_need_words (G : Gd P w K mg base) : Cal P w K mg base (Tt K) "need_words" 6 ["words", "many"] W_need_words := by
  obtain ⟨fd, F1, F⟩ := s_need_words G
  exact ⟨⟨fd, F1, F.bindsN fun _ _ _ _ _ _ us hl => match us, hl with | [_, _], _ => rfl⟩, G.g_need_words, F.kp⟩
theorem S_Watch_init : FnScope ["self", "moves", "words", "line"] ["self", "moves", "words"] (defScope st_Watch_init) := ⟨rfl, rfl, rfl, by decide +kernel, rfl, by decide +kernel, by decide +kernel⟩
theorem s_Watch_init (G : Gd P w K mg base) : ∃ fd, FnA P w K mg base (Tt K) 7 (He.ma K (He.ga K "Watch") "__init__") fd ["self", "moves", "words"] W_Watch_init ∧ Binds K fd ["self", "moves", "words"] [] := by
  have c_need_moves := c_need_moves G
  have c_need_words := c_need_words G
  obtain ⟨fd, F⟩ := G.d_Watch_init
  refine ⟨fd, fn_sound F S_Watch_init rfl rfl (by decide) fun cdv A outer s H E W hr tk => ?_, F.bindsN fun _ _ _ _ _ _ us hl => match us, hl with | [_, _, _], _ => rfl⟩
  exact sss_cons (ss_expr (se_call c_need_moves hr (by decide) tk (sa_cons (se_var 1) (sa_nil))))
    (sss_cons (ss_expr (se_call c_need_words hr (by decide) tk (sa_cons (se_var 2) (sa_cons (se_blt (ca_len) rfl G.f_len rfl (sa_cons (se_var 1) (sa_nil))) (sa_nil)))))
    (sss_cons (ss_fld G.cls_Watch G.na_Watch_own_moves (se_var 0) (se_bltT (ca_tuple) rfl G.f_tuple rfl (sa_cons (se_lc (own := [("line", 3)]) rfl S_Watch_init.nd (blkOk_by (by kernel_rfl)) (si_seq (se_var 1)) (fun _ _ _ _ _ => sg_name S_Watch_init.nd (by decide)) (fun _ _ _ _ _ => sts_nil) (fun _ _ _ _ _ => se_bltT (ca_tuple) rfl G.f_tuple rfl (sa_cons (se_var 3) (sa_nil)))) (sa_nil))))
    (sss_one (ss_fld G.cls_Watch G.na_Watch_own_words (se_var 0) (se_bltT (ca_tuple) rfl G.f_tuple rfl (sa_cons (se_var 2) (sa_nil)))))))
theorem m_Watch (G : Gd P w K mg base) : CalC P w K mg base (Tt K) "Watch" 7 ["self", "moves", "words"] W_Watch_init := by
  obtain ⟨fd, F, b⟩ := s_Watch_init G
  exact ⟨⟨_, fd, F, b, G.mk_Watch⟩, G.g_Watch⟩
theorem S__law_known : FnScope ["falls"] [] (defScope st__law_known) := ⟨rfl, rfl, rfl, by decide +kernel, rfl, by decide +kernel, by decide +kernel⟩
theorem s__law_known (G : Gd P w K mg base) : ∃ fd, FnA P w K mg base (Tt K) 9 (He.ga K "_law_known") fd [] W__law_known ∧ FunD K "_law_known" "_law_known" (defArgs st__law_known) (defBody st__law_known) (defScope st__law_known) [] [] (He.ga K "_law_known") fd := by
  have m_Watch := m_Watch G
  obtain ⟨fd, F⟩ := G.d__law_known
  refine ⟨fd, fn_sound F S__law_known rfl rfl (by decide) fun cdv A outer s H E W hr tk => ?_, F⟩
  exact sss_cons (ss_set (se_make m_Watch hr (by decide) tk (sa_cons (se_lst (sa_cons (se_tup (sa_cons (se_int) (sa_cons (se_int) (sa_nil)))) (sa_cons (se_tup (sa_cons (se_int) (sa_cons (se_int) (sa_nil)))) (sa_cons (se_tup (sa_cons (se_int) (sa_cons (se_int) (sa_nil)))) (sa_nil))))) (sa_cons (se_lst (sa_cons (se_int) (sa_cons (se_int) (sa_cons (se_int) (sa_nil))))) (sa_nil)))) S__law_known.nd)
    (sss_one (ss_ret (se_tup (sa_cons (se_var 0) (sa_cons (se_make m_Watch hr (by decide) tk (sa_cons (se_lst (sa_cons (se_tup (sa_cons (se_int) (sa_cons (se_int) (sa_nil)))) (sa_cons (se_tup (sa_cons (se_int) (sa_cons (se_int) (sa_nil)))) (sa_nil)))) (sa_cons (se_lst (sa_cons (se_int) (sa_cons (se_int) (sa_nil)))) (sa_nil)))) (sa_cons (se_make m_Watch hr (by decide) tk (sa_cons (se_lst (sa_cons (se_tup (sa_cons (se_int) (sa_cons (se_int) (sa_nil)))) (sa_cons (se_tup (sa_cons (se_int) (sa_cons (se_int) (sa_nil)))) (sa_cons (se_tup (sa_cons (se_int) (sa_cons (se_int) (sa_nil)))) (sa_cons (se_tup (sa_cons (se_int) (sa_cons (se_int) (sa_nil)))) (sa_nil)))))) (sa_cons (se_lst (sa_cons (se_int) (sa_cons (se_int) (sa_cons (se_int) (sa_cons (se_int) (sa_nil)))))) (sa_nil)))) (sa_nil)))))))
theorem c__law_known (G : Gd P w K mg base) : Cal P w K mg base (Tt K) "_law_known" 9 [] W__law_known := by
  obtain ⟨fd, F1, F⟩ := s__law_known G
  exact ⟨⟨fd, F1, F.bindsN fun _ _ _ _ _ _ us hl => match us, hl with | [], _ => rfl⟩, G.g__law_known, F.kp⟩
theorem S__law_made : FnScope ["watch", "goals"] ["watch"] (defScope st__law_made) := ⟨rfl, rfl, rfl, by decide +kernel, rfl, by decide +kernel, by decide +kernel⟩
theorem s__law_made (G : Gd P w K mg base) : ∃ fd, FnA P w K mg base (Tt K) 9 (He.ga K "_law_made") fd ["watch"] W__law_made ∧ FunD K "_law_made" "_law_made" (defArgs st__law_made) (defBody st__law_made) (defScope st__law_made) [] [] (He.ga K "_law_made") fd := by
  have m_Watch := m_Watch G
  obtain ⟨fd, F⟩ := G.d__law_made
  refine ⟨fd, fn_sound F S__law_made rfl rfl (by decide) fun cdv A outer s H E W hr tk => ?_, F⟩
  exact sss_one (ss_ret (se_make m_Watch hr (by decide) tk (sa_cons (se_lc (own := [("goals", 1)]) rfl S__law_made.nd (blkOk_by (by kernel_rfl)) (si_seq (se_ix hr.u1 (se_var 0) (se_int))) (fun _ _ _ _ _ => sg_name S__law_made.nd (by decide)) (fun _ _ _ _ _ => sts_nil) (fun _ _ _ _ _ => se_bltT (ca_list) rfl G.f_list rfl (sa_cons (se_var 1) (sa_nil)))) (sa_cons (se_bltT (ca_list) rfl G.f_list rfl (sa_cons (se_ix hr.u1 (se_var 0) (se_int)) (sa_nil))) (sa_nil)))))
theorem c__law_made (G : Gd P w K mg base) : Cal P w K mg base (Tt K) "_law_made" 9 ["watch"] W__law_made := by
  obtain ⟨fd, F1, F⟩ := s__law_made G
  exact ⟨⟨fd, F1, F.bindsN fun _ _ _ _ _ _ us hl => match us, hl with | [_], _ => rfl⟩, G.g__law_made, F.kp⟩
theorem S__law_pick : FnScope ["tape", "several"] ["tape", "several"] (defScope st__law_pick) := ⟨rfl, rfl, rfl, by decide +kernel, rfl, by decide +kernel, by decide +kernel⟩
theorem s__law_pick (G : Gd P w K mg base) : ∃ fd, FnA P w K mg base (Tt K) 3 (He.ga K "_law_pick") fd ["tape", "several"] W__law_pick ∧ FunD K "_law_pick" "_law_pick" (defArgs st__law_pick) (defBody st__law_pick) (defScope st__law_pick) [] [] (He.ga K "_law_pick") fd := by
  have c__law_draw := c__law_draw G
  obtain ⟨fd, F⟩ := G.d__law_pick
  refine ⟨fd, fn_sound F S__law_pick rfl rfl (by decide) fun cdv A outer s H E W hr tk => ?_, F⟩
  exact sss_one (ss_ret (se_ix hr.u1 (se_var 1) (se_call c__law_draw hr (by decide) tk (sa_cons (se_var 0) (sa_cons (se_blt (ca_len) rfl G.f_len rfl (sa_cons (se_var 1) (sa_nil))) (sa_nil))))))
theorem c__law_pick (G : Gd P w K mg base) : Cal P w K mg base (Tt K) "_law_pick" 3 ["tape", "several"] W__law_pick := by
  obtain ⟨fd, F1, F⟩ := s__law_pick G
  exact ⟨⟨fd, F1, F.bindsN fun _ _ _ _ _ _ us hl => match us, hl with | [_, _], _ => rfl⟩, G.g__law_pick, F.kp⟩
theorem S__law_place : FnScope ["watch", "row", "place", "kind"] ["watch", "row"] (defScope st__law_place) := ⟨rfl, rfl, rfl, by decide +kernel, rfl, by decide +kernel, by decide +kernel⟩
theorem s__law_place (G : Gd P w K mg base) : ∃ fd, FnA P w K mg base (Tt K) 1 (He.ga K "_law_place") fd ["watch", "row"] W__law_place ∧ FunD K "_law_place" "_law_place" (defArgs st__law_place) (defBody st__law_place) (defScope st__law_place) [] [] (He.ga K "_law_place") fd := by
  obtain ⟨fd, F⟩ := G.d__law_place
  refine ⟨fd, fn_sound F S__law_place rfl rfl (by decide) fun cdv A outer s H E W hr tk => ?_, F⟩
  exact sss_cons (ss_set (se_int) S__law_place.nd)
    (sss_cons (ss_for (S := [3]) (passes_of rfl) rfl (si_seq (se_var 1)) (sg_name S__law_place.nd (by decide))
    (sss_one (ss_set (se_ix hr.u1 (se_ix hr.u1 (se_ix hr.u1 (se_var 0) (se_int)) (se_var 2)) (se_var 3)) S__law_place.nd)))
    (sss_one (ss_ret (se_var 2))))
theorem c__law_place (G : Gd P w K mg base) : Cal P w K mg base (Tt K) "_law_place" 1 ["watch", "row"] W__law_place := by
  obtain ⟨fd, F1, F⟩ := s__law_place G
  exact ⟨⟨fd, F1, F.bindsN fun _ _ _ _ _ _ us hl => match us, hl with | [_, _], _ => rfl⟩, G.g__law_place, F.kp⟩
theorem S__law_row : FnScope ["tape", "watch", "most", "item"] ["tape", "watch", "most"] (defScope st__law_row) := ⟨rfl, rfl, rfl, by decide +kernel, rfl, by decide +kernel, by decide +kernel⟩
theorem s__law_row (G : Gd P w K mg base) : ∃ fd, FnA P w K mg base (Tt K) 3 (He.ga K "_law_row") fd ["tape", "watch", "most"] W__law_row ∧ FunD K "_law_row" "_law_row" (defArgs st__law_row) (defBody st__law_row) (defScope st__law_row) [] [] (He.ga K "_law_row") fd := by
  have c__law_draw := c__law_draw G
  obtain ⟨fd, F⟩ := G.d__law_row
  refine ⟨fd, fn_sound F S__law_row rfl rfl (by decide) fun cdv A outer s H E W hr tk => ?_, F⟩
  exact sss_one (ss_ret (se_bltT (ca_tuple) rfl G.f_tuple rfl (sa_cons (se_lc (own := [("item", 3)]) rfl S__law_row.nd (blkOk_by (by kernel_rfl)) (si_range1 G.f_range (sa_cons (se_call c__law_draw hr (by decide) tk (sa_cons (se_var 0) (sa_cons (se_bin op_addS (se_var 2) (se_int)) (sa_nil)))) (sa_nil))) (fun _ _ _ _ _ => sg_name S__law_row.nd (by decide)) (fun _ _ _ _ _ => sts_nil) (fun _ _ _ _ _ => se_call c__law_draw hr (by decide) takes0 (sa_cons (se_var 0) (sa_cons (se_blt (ca_len) rfl G.f_len rfl (sa_cons (se_ix hr.u1 (se_ix hr.u1 (se_var 1) (se_int)) (se_int)) (sa_nil))) (sa_nil))))) (sa_nil))))
theorem c__law_row (G : Gd P w K mg base) : Cal P w K mg base (Tt K) "_law_row" 3 ["tape", "watch", "most"] W__law_row := by
  obtain ⟨fd, F1, F⟩ := s__law_row G
  exact ⟨⟨fd, F1, F.bindsN fun _ _ _ _ _ _ us hl => match us, hl with | [_, _, _], _ => rfl⟩, G.g__law_row, F.kp⟩
theorem S__law_small : FnScope ["watch", "names", "lap", "keys", "line", "spots", "goal", "moves", "place", "key"] ["watch"] (defScope st__law_small) := ⟨rfl, rfl, rfl, by decide +kernel, rfl, by decide +kernel, by decide +kernel⟩
theorem s__law_small (G : Gd P w K mg base) : ∃ fd, FnA P w K mg base (Tt K) 9 (He.ga K "_law_small") fd ["watch"] W__law_small ∧ FunD K "_law_small" "_law_small" (defArgs st__law_small) (defBody st__law_small) (defScope st__law_small) [] [] (He.ga K "_law_small") fd := by
  have m_Watch := m_Watch G
  obtain ⟨fd, F⟩ := G.d__law_small
  refine ⟨fd, fn_sound F S__law_small rfl rfl (by decide) fun cdv A outer s H E W hr tk => ?_, F⟩
  exact sss_cons (ss_set (se_bltT (ca_list) rfl G.f_list rfl (sa_cons (se_ix hr.u1 (se_var 0) (se_int)) (sa_nil))) S__law_small.nd)
    (sss_cons (ss_for (S := [2]) (passes_of rfl) rfl (si_seq (se_ix hr.u1 (se_var 0) (se_int))) (sg_name S__law_small.nd (by decide))
    (sss_cons (ss_set (se_lc (own := [("place", 8)]) rfl S__law_small.nd (blkOk_by (by kernel_rfl)) (si_range1 G.f_range (sa_cons (se_blt (ca_len) rfl G.f_len rfl (sa_cons (se_var 1) (sa_nil))) (sa_nil))) (fun _ _ _ _ _ => sg_name S__law_small.nd (by decide)) (fun _ _ _ _ _ => sts_nil) (fun _ _ _ _ _ => se_bin op_addS (se_tup (sa_cons (se_ix hr.u1 (se_var 1) (se_var 8)) (sa_nil))) (se_bltT (ca_tuple) rfl G.f_tuple rfl (sa_cons (se_lc (own := [("goal", 6)]) rfl S__law_small.nd (blkOk_by (by kernel_rfl)) (si_seq (se_ix hr.u1 (se_ix hr.u1 (se_var 0) (se_int)) (se_var 8))) (fun _ _ _ _ _ => sg_name S__law_small.nd (by decide)) (fun _ _ _ _ _ => sts_nil) (fun _ _ _ _ _ => se_ix hr.u1 (se_var 1) (se_var 6))) (sa_nil))))) S__law_small.nd)
    (sss_one (ss_set (se_lc (own := [("key", 9)]) rfl S__law_small.nd (blkOk_by (by kernel_rfl)) (si_seq (se_var 3)) (fun _ _ _ _ _ => sg_name S__law_small.nd (by decide)) (fun _ _ _ _ _ => sts_nil) (fun _ _ _ _ _ => se_mt PySem.F.plainAttrs_list PySem.F.slot_list_index PySem.F.type_list_index (mt_indexS hr.u65) (se_var 3) (sa_cons (se_var 9) (sa_nil)))) S__law_small.nd))))
    (sss_cons (ss_asg (S := [4, 5]) (se_tup (sa_cons (se_lst (sa_cons (se_int) (sa_nil))) (sa_cons (se_lst (sa_cons (se_ix hr.u1 (se_var 1) (se_int)) (sa_nil))) (sa_nil)))) (sg_tup rfl (sgs_cons (sg_name S__law_small.nd (by decide)) (sgs_cons (sg_name S__law_small.nd (by decide)) (sgs_nil)))))
    (sss_cons (ss_for (S := [2]) (passes_of rfl) rfl (si_range1 G.f_range (sa_cons (se_int) (sa_nil))) (sg_name S__law_small.nd (by decide))
    (sss_one (ss_if (st_cmp (op_ltS) (se_var 2) (se_blt (ca_len) rfl G.f_len rfl (sa_cons (se_var 4) (sa_nil))) rfl)
    (sss_one (ss_for (S := [6]) (passes_of rfl) rfl (si_seq (se_ix hr.u1 (se_ix hr.u1 (se_var 0) (se_int)) (se_ix hr.u1 (se_var 4) (se_var 2)))) (sg_name S__law_small.nd (by decide))
    (sss_one (ss_if (st_cmp (op_notInAllS hr.u65) (se_ix hr.u1 (se_var 1) (se_var 6)) (se_var 5) rfl)
    (sss_cons (ss_expr (se_mt PySem.F.plainAttrs_list PySem.F.slot_list_append PySem.F.type_list_append (mt_appendS) (se_var 5) (sa_cons (se_ix hr.u1 (se_var 1) (se_var 6)) (sa_nil))))
    (sss_one (ss_expr (se_mt PySem.F.plainAttrs_list PySem.F.slot_list_append PySem.F.type_list_append (mt_appendS) (se_var 4) (sa_cons (se_var 6) (sa_nil))))))
    (sss_nil)))))
    (sss_nil))))
    (sss_cons (ss_setLc (i := 7) (own := [("place", 8)]) rfl S__law_small.nd rfl (blkOk_by (by kernel_rfl)) (si_seq (se_var 4)) (fun _ _ _ _ _ => sg_name S__law_small.nd (by decide)) (fun _ _ _ _ _ => sts_nil) (fun _ _ _ _ _ => se_bltT (ca_tuple) rfl G.f_tuple rfl (sa_cons (se_lc (own := [("goal", 6)]) rfl S__law_small.nd (blkOk_by (by kernel_rfl)) (si_seq (se_ix hr.u1 (se_ix hr.u1 (se_var 0) (se_int)) (se_var 8))) (fun _ _ _ _ _ => sg_name S__law_small.nd (by decide)) (fun _ _ _ _ _ => sts_nil) (fun _ _ _ _ _ => se_mt PySem.F.plainAttrs_list PySem.F.slot_list_index PySem.F.type_list_index (mt_indexS hr.u65) (se_var 5) (sa_cons (se_ix hr.u1 (se_var 1) (se_var 6)) (sa_nil)))) (sa_nil))))
    (sss_one (ss_ret (se_make m_Watch hr (by decide) tk (sa_cons (se_var 7) (sa_cons (se_lc (own := [("place", 8)]) rfl S__law_small.nd (blkOk_by (by kernel_rfl)) (si_seq (se_var 4)) (fun _ _ _ _ _ => sg_name S__law_small.nd (by decide)) (fun _ _ _ _ _ => sts_nil) (fun _ _ _ _ _ => se_ix hr.u1 (se_ix hr.u1 (se_var 0) (se_int)) (se_var 8))) (sa_nil))))))))))
theorem c__law_small (G : Gd P w K mg base) : Cal P w K mg base (Tt K) "_law_small" 9 ["watch"] W__law_small := by
  obtain ⟨fd, F1, F⟩ := s__law_small G
  exact ⟨⟨fd, F1, F.bindsN fun _ _ _ _ _ _ us hl => match us, hl with | [_], _ => rfl⟩, G.g__law_small, F.kp⟩
theorem S__law_word : FnScope ["watch", "row"] ["watch", "row"] (defScope st__law_word) := ⟨rfl, rfl, rfl, by decide +kernel, rfl, by decide +kernel, by decide +kernel⟩
theorem s__law_word (G : Gd P w K mg base) : ∃ fd, FnA P w K mg base (Tt K) 2 (He.ga K "_law_word") fd ["watch", "row"] W__law_word ∧ FunD K "_law_word" "_law_word" (defArgs st__law_word) (defBody st__law_word) (defScope st__law_word) [] [] (He.ga K "_law_word") fd := by
  have c__law_place := c__law_place G
  obtain ⟨fd, F⟩ := G.d__law_word
  refine ⟨fd, fn_sound F S__law_word rfl rfl (by decide) fun cdv A outer s H E W hr tk => ?_, F⟩
  exact sss_one (ss_ret (se_ix hr.u1 (se_ix hr.u1 (se_var 0) (se_int)) (se_call c__law_place hr (by decide) tk (sa_cons (se_var 0) (sa_cons (se_var 1) (sa_nil))))))
theorem c__law_word (G : Gd P w K mg base) : Cal P w K mg base (Tt K) "_law_word" 2 ["watch", "row"] W__law_word := by
  obtain ⟨fd, F1, F⟩ := s__law_word G
  exact ⟨⟨fd, F1, F.bindsN fun _ _ _ _ _ _ us hl => match us, hl with | [_, _], _ => rfl⟩, G.g__law_word, F.kp⟩
theorem S_found_places : FnScope ["moves", "first", "found", "spot", "place"] ["moves", "first"] (defScope st_found_places) := ⟨rfl, rfl, rfl, by decide +kernel, rfl, by decide +kernel, by decide +kernel⟩
theorem s_found_places (G : Gd P w K mg base) : ∃ fd, FnA P w K mg base (Tt K) 1 (He.ga K "found_places") fd ["moves", "first"] W_found_places ∧ FunD K "found_places" "found_places" (defArgs st_found_places) (defBody st_found_places) (defScope st_found_places) [] [] (He.ga K "found_places") fd := by
  obtain ⟨fd, F⟩ := G.d_found_places
  refine ⟨fd, fn_sound F S_found_places rfl rfl (by decide) fun cdv A outer s H E W hr tk => ?_, F⟩
  exact sss_cons (ss_par rfl S_found_places.nd (by decide) (sa_cons (se_lst (sa_cons (se_var 1) (sa_nil))) (sa_cons (se_int) (sa_nil))))
    (sss_cons (ss_while (passes_of rfl) (st_cmp (op_ltS) (se_var 3) (se_blt (ca_len) rfl G.f_len rfl (sa_cons (se_var 2) (sa_nil))) rfl)
    (sss_cons (ss_for (S := [4]) (passes_of rfl) rfl (si_seq (se_ix hr.u1 (se_var 0) (se_ix hr.u1 (se_var 2) (se_var 3)))) (sg_name S_found_places.nd (by decide))
    (sss_one (ss_if (st_cmp (op_notInAllS hr.u65) (se_var 4) (se_var 2) rfl)
    (sss_one (ss_expr (se_mt PySem.F.plainAttrs_list PySem.F.slot_list_append PySem.F.type_list_append (mt_appendS) (se_var 2) (sa_cons (se_var 4) (sa_nil)))))
    (sss_nil))))
    (sss_one (ss_set (se_bin op_addS (se_var 3) (se_int)) S_found_places.nd))))
    (sss_one (ss_ret (se_var 2))))
theorem c_found_places (G : Gd P w K mg base) : Cal P w K mg base (Tt K) "found_places" 1 ["moves", "first"] W_found_places := by
  obtain ⟨fd, F1, F⟩ := s_found_places G
  exact ⟨⟨fd, F1, F.bindsN fun _ _ _ _ _ _ us hl => match us, hl with | [_, _], _ => rfl⟩, G.g_found_places, F.kp⟩
theorem S_numbered : FnScope ["rows", "known", "found", "place", "row"] ["rows"] (defScope st_numbered) := ⟨rfl, rfl, rfl, by decide +kernel, rfl, by decide +kernel, by decide +kernel⟩
theorem s_numbered (G : Gd P w K mg base) : ∃ fd, FnA P w K mg base (Tt K) 1 (He.ga K "numbered") fd ["rows"] W_numbered ∧ FunD K "numbered" "numbered" (defArgs st_numbered) (defBody st_numbered) (defScope st_numbered) [] [] (He.ga K "numbered") fd := by
  obtain ⟨fd, F⟩ := G.d_numbered
  refine ⟨fd, fn_sound F S_numbered rfl rfl (by decide) fun cdv A outer s H E W hr tk => ?_, F⟩
  exact sss_cons (ss_par rfl S_numbered.nd (by decide) (sa_cons (se_dic0) (sa_cons (se_dic0) (sa_nil))))
    (sss_cons (ss_lock (ss_for (S := [3, 4]) (passes_of rfl) rfl (si_items (se_var 0)) (sg_tup rfl (sgs_cons (sg_name S_numbered.nd (by decide)) (sgs_cons (sg_name S_numbered.nd (by decide)) (sgs_nil))))
    (sss_cons (ss_if (st_cmp (op_notInAllS hr.u65) (se_var 4) (se_var 1) rfl)
    (sss_one (ss_asg (S := []) (se_blt (ca_len) rfl G.f_len rfl (sa_cons (se_var 1) (sa_nil))) (sg_ix hr.u1 (se_var 1) (se_var 4))))
    (sss_nil))
    (sss_one (ss_asg (S := []) (se_ix hr.u1 (se_var 1) (se_var 4)) (sg_ix hr.u1 (se_var 2) (se_var 3)))))))
    (sss_one (ss_ret (se_var 2))))
theorem c_numbered (G : Gd P w K mg base) : Cal P w K mg base (Tt K) "numbered" 1 ["rows"] W_numbered := by
  obtain ⟨fd, F1, F⟩ := s_numbered G
  exact ⟨⟨fd, F1, F.bindsN fun _ _ _ _ _ _ us hl => match us, hl with | [_], _ => rfl⟩, G.g_numbered, F.kp⟩
theorem S_marks_of : FnScope ["moves", "words", "places", "marks", "many", "place", "goal"] ["moves", "words", "places"] (defScope st_marks_of) := ⟨rfl, rfl, rfl, by decide +kernel, rfl, by decide +kernel, by decide +kernel⟩
theorem s_marks_of (G : Gd P w K mg base) : ∃ fd, FnA P w K mg base (Tt K) 2 (He.ga K "marks_of") fd ["moves", "words", "places"] W_marks_of ∧ FunD K "marks_of" "marks_of" (defArgs st_marks_of) (defBody st_marks_of) (defScope st_marks_of) [] [] (He.ga K "marks_of") fd := by
  have c_numbered := c_numbered G
  obtain ⟨fd, F⟩ := G.d_marks_of
  refine ⟨fd, fn_sound F S_marks_of rfl rfl (by decide) fun cdv A outer s H E W hr tk => ?_, F⟩
  exact sss_cons (ss_set (se_call c_numbered hr (by decide) tk (sa_cons (se_dc (own := [("place", 5)]) rfl S_marks_of.nd (blkOk_by (by kernel_rfl)) (si_seq (se_var 2)) (fun _ _ _ _ _ => sg_name S_marks_of.nd (by decide)) (fun _ _ _ _ _ => sts_nil) (fun _ _ _ _ _ => se_var 5) (fun _ _ _ _ _ => se_ix hr.u1 (se_var 1) (se_var 5))) (sa_nil))) S_marks_of.nd)
    (sss_cons (ss_set (se_int) S_marks_of.nd)
    (sss_cons (ss_while (passes_of rfl) (st_cmp (op_neS hr.units) (se_var 4) (se_lenSet G.f_len G.f_set rfl (se_lc (own := [("place", 5)]) rfl S_marks_of.nd (blkOk_by (by kernel_rfl)) (si_seq (se_var 2)) (fun _ _ _ _ _ => sg_name S_marks_of.nd (by decide)) (fun _ _ _ _ _ => sts_nil) (fun _ _ _ _ _ => se_ix hr.u1 (se_var 3) (se_var 5)))) rfl)
    (sss_cons (ss_set (se_lenSet G.f_len G.f_set rfl (se_lc (own := [("place", 5)]) rfl S_marks_of.nd (blkOk_by (by kernel_rfl)) (si_seq (se_var 2)) (fun _ _ _ _ _ => sg_name S_marks_of.nd (by decide)) (fun _ _ _ _ _ => sts_nil) (fun _ _ _ _ _ => se_ix hr.u1 (se_var 3) (se_var 5)))) S_marks_of.nd)
    (sss_one (ss_set (se_call c_numbered hr (by decide) tk (sa_cons (se_dc (own := [("place", 5)]) rfl S_marks_of.nd (blkOk_by (by kernel_rfl)) (si_seq (se_var 2)) (fun _ _ _ _ _ => sg_name S_marks_of.nd (by decide)) (fun _ _ _ _ _ => sts_nil) (fun _ _ _ _ _ => se_var 5) (fun _ _ _ _ _ => se_tup (sa_cons (se_ix hr.u1 (se_var 3) (se_var 5)) (sa_star (se_lc (own := [("goal", 6)]) rfl S_marks_of.nd (blkOk_by (by kernel_rfl)) (si_seq (se_ix hr.u1 (se_var 0) (se_var 5))) (fun _ _ _ _ _ => sg_name S_marks_of.nd (by decide)) (fun _ _ _ _ _ => sts_nil) (fun _ _ _ _ _ => se_ix hr.u1 (se_var 3) (se_var 6))) (sa_nil))))) (sa_nil))) S_marks_of.nd))))
    (sss_one (ss_ret (se_var 3)))))
theorem c_marks_of (G : Gd P w K mg base) : Cal P w K mg base (Tt K) "marks_of" 2 ["moves", "words", "places"] W_marks_of := by
  obtain ⟨fd, F1, F⟩ := s_marks_of G
  exact ⟨⟨fd, F1, F.bindsN fun _ _ _ _ _ _ us hl => match us, hl with | [_, _, _], _ => rfl⟩, G.g_marks_of, F.kp⟩
theorem S_least_tables : FnScope ["moves", "words", "places", "marks", "heads", "place", "folded", "order", "found", "mark", "goal"] ["moves", "words"] (defScope st_least_tables) := ⟨rfl, rfl, rfl, by decide +kernel, rfl, by decide +kernel, by decide +kernel⟩
theorem s_least_tables (G : Gd P w K mg base) : ∃ fd, FnA P w K mg base (Tt K) 3 (He.ga K "least_tables") fd ["moves", "words"] W_least_tables ∧ FunD K "least_tables" "least_tables" (defArgs st_least_tables) (defBody st_least_tables) (defScope st_least_tables) [] [] (He.ga K "least_tables") fd := by
  have c_found_places := c_found_places G
  have c_marks_of := c_marks_of G
  obtain ⟨fd, F⟩ := G.d_least_tables
  refine ⟨fd, fn_sound F S_least_tables rfl rfl (by decide) fun cdv A outer s H E W hr tk => ?_, F⟩
  exact sss_cons (ss_set (se_call c_found_places hr (by decide) tk (sa_cons (se_var 0) (sa_cons (se_int) (sa_nil)))) S_least_tables.nd)
    (sss_cons (ss_set (se_call c_marks_of hr (by decide) tk (sa_cons (se_var 0) (sa_cons (se_var 1) (sa_cons (se_var 2) (sa_nil))))) S_least_tables.nd)
    (sss_cons (ss_set (se_dic0) S_least_tables.nd)
    (sss_cons (ss_for (S := [5]) (passes_of rfl) rfl (si_seq (se_var 2)) (sg_name S_least_tables.nd (by decide))
    (sss_one (ss_expr (se_mt PySem.F.plainAttrs_dict PySem.F.slot_dict_setdefault PySem.F.type_dict_setdefault (mt_setdS) (se_var 4) (sa_cons (se_ix hr.u1 (se_var 3) (se_var 5)) (sa_cons (se_var 5) (sa_nil)))))))
    (sss_cons (ss_set (se_lock (se_dc (own := [("mark", 9), ("place", 5)]) rfl S_least_tables.nd (blkOk_by (by kernel_rfl)) (si_items (se_var 4)) (fun _ _ _ _ _ => sg_tup rfl (sgs_cons (sg_name S_least_tables.nd (by decide)) (sgs_cons (sg_name S_least_tables.nd (by decide)) (sgs_nil)))) (fun _ _ _ _ _ => sts_nil) (fun _ _ _ _ _ => se_var 9) (fun _ _ _ _ _ => se_lc (own := [("goal", 10)]) rfl S_least_tables.nd (blkOk_by (by kernel_rfl)) (si_seq (se_ix hr.u1 (se_var 0) (se_var 5))) (fun _ _ _ _ _ => sg_name S_least_tables.nd (by decide)) (fun _ _ _ _ _ => sts_nil) (fun _ _ _ _ _ => se_ix hr.u1 (se_var 3) (se_var 10))))) S_least_tables.nd)
    (sss_cons (ss_set (se_call c_found_places hr (by decide) tk (sa_cons (se_var 6) (sa_cons (se_ix hr.u1 (se_var 3) (se_int)) (sa_nil)))) S_least_tables.nd)
    (sss_cons (ss_setLc (i := 8) (own := [("mark", 9)]) rfl S_least_tables.nd rfl (blkOk_by (by kernel_rfl)) (si_seq (se_var 7)) (fun _ _ _ _ _ => sg_name S_least_tables.nd (by decide)) (fun _ _ _ _ _ => sts_nil) (fun _ _ _ _ _ => se_bltT (ca_tuple) rfl G.f_tuple rfl (sa_cons (se_lc (own := [("goal", 10)]) rfl S_least_tables.nd (blkOk_by (by kernel_rfl)) (si_seq (se_ix hr.u1 (se_var 6) (se_var 9))) (fun _ _ _ _ _ => sg_name S_least_tables.nd (by decide)) (fun _ _ _ _ _ => sts_nil) (fun _ _ _ _ _ => se_mt PySem.F.plainAttrs_list PySem.F.slot_list_index PySem.F.type_list_index (mt_indexS hr.u65) (se_var 7) (sa_cons (se_var 10) (sa_nil)))) (sa_nil))))
    (sss_one (ss_ret (se_tup (sa_cons (se_var 8) (sa_cons (se_lc (own := [("mark", 9)]) rfl S_least_tables.nd (blkOk_by (by kernel_rfl)) (si_seq (se_var 7)) (fun _ _ _ _ _ => sg_name S_least_tables.nd (by decide)) (fun _ _ _ _ _ => sts_nil) (fun _ _ _ _ _ => se_ix hr.u1 (se_var 1) (se_ix hr.u1 (se_var 4) (se_var 9)))) (sa_nil))))))))))))
theorem c_least_tables (G : Gd P w K mg base) : Cal P w K mg base (Tt K) "least_tables" 3 ["moves", "words"] W_least_tables := by
  obtain ⟨fd, F1, F⟩ := s_least_tables G
  exact ⟨⟨fd, F1, F.bindsN fun _ _ _ _ _ _ us hl => match us, hl with | [_, _], _ => rfl⟩, G.g_least_tables, F.kp⟩
theorem S_need_watch : FnScope ["watch", "part"] ["watch", "part"] (defScope st_need_watch) := ⟨rfl, rfl, rfl, by decide +kernel, rfl, by decide +kernel, by decide +kernel⟩
theorem s_need_watch (G : Gd P w K mg base) : ∃ fd, FnA P w K mg base (Tt K) 3 (He.ga K "need_watch") fd ["watch", "part"] W_need_watch ∧ FunD K "need_watch" "need_watch" (defArgs st_need_watch) (defBody st_need_watch) (defScope st_need_watch) [.non] [] (He.ga K "need_watch") fd := by
  have x_NoWatch := x_NoWatch G
  obtain ⟨fd, F⟩ := G.d_need_watch
  refine ⟨fd, fn_sound F S_need_watch rfl rfl (by decide) fun cdv A outer s H E W hr tk => ?_, F⟩
  exact sss_one (ss_if (st_not (st_val (se_blt (ca_isi G.kt) rfl G.f_isinstance rfl (sa_cons (se_var 0) (sa_cons (se_glob rfl G.g_Watch) (sa_nil))))))
    (sss_one (ss_raise1 x_NoWatch rfl hr (by decide) tk (se_var 1)))
    (sss_nil))
theorem d_need_watch_1 (G : Gd P w K mg base) : CalD P w K mg base (Tt K) "need_watch" 3 ["watch", "part"] W_need_watch [.non] := by
  obtain ⟨fd, F1, F⟩ := s_need_watch G
  obtain ⟨ds, hv, hb⟩ := F.binds1 (ps := ["watch", "part"]) 1 0 (by simp) rfl fun T kV doc pm an cdv ct us its h1 h2 => match us, its, h1, h2 with | [_], [_], _, _ => ⟨_, rfl, rfl⟩
  exact ⟨⟨fd, ds, _, F1, hb, hv, fun w => by simp [RVs, RV]⟩, G.g_need_watch, F.kp⟩
theorem S_Watch_moves : FnScope ["self"] ["self"] (defScope st_Watch_moves) := ⟨rfl, rfl, rfl, by decide +kernel, rfl, by decide +kernel, by decide +kernel⟩
theorem s_Watch_moves (G : Gd P w K mg base) : ∃ fd, FnA P w K mg base (Tt K) 1 (PyH.getAt "Watch" "moves" K) fd ["self"] W_Watch_moves ∧ Binds K fd ["self"] [] := by
  obtain ⟨fd, F⟩ := G.d_Watch_moves
  refine ⟨fd, fn_sound F S_Watch_moves rfl rfl (by decide) fun cdv A outer s H E W hr tk => ?_, F.bindsN fun _ _ _ _ _ _ us hl => match us, hl with | [_], _ => rfl⟩
  exact sss_one (ss_ret (se_fld G.cls_Watch G.na_Watch_own_moves (se_var 0)))
theorem S_Watch_words : FnScope ["self"] ["self"] (defScope st_Watch_words) := ⟨rfl, rfl, rfl, by decide +kernel, rfl, by decide +kernel, by decide +kernel⟩
theorem s_Watch_words (G : Gd P w K mg base) : ∃ fd, FnA P w K mg base (Tt K) 1 (PyH.getAt "Watch" "words" K) fd ["self"] W_Watch_words ∧ Binds K fd ["self"] [] := by
  obtain ⟨fd, F⟩ := G.d_Watch_words
  refine ⟨fd, fn_sound F S_Watch_words rfl rfl (by decide) fun cdv A outer s H E W hr tk => ?_, F.bindsN fun _ _ _ _ _ _ us hl => match us, hl with | [_], _ => rfl⟩
  exact sss_one (ss_ret (se_fld G.cls_Watch G.na_Watch_own_words (se_var 0)))
theorem S_least_watch : FnScope ["watch", "moves", "words"] ["watch"] (defScope st_least_watch) := ⟨rfl, rfl, rfl, by decide +kernel, rfl, by decide +kernel, by decide +kernel⟩
theorem s_least_watch (G : Gd P w K mg base) : ∃ fd, FnA P w K mg base (Tt K) 9 (He.ga K "least_watch") fd ["watch"] W_least_watch ∧ FunD K "least_watch" "least_watch" (defArgs st_least_watch) (defBody st_least_watch) (defScope st_least_watch) [] [] (He.ga K "least_watch") fd := by
  have c_least_tables := c_least_tables G
  have d_need_watch_1 := d_need_watch_1 G
  obtain ⟨fd_moves, p_Watch_moves⟩ := s_Watch_moves G
  obtain ⟨fd_words, p_Watch_words⟩ := s_Watch_words G
  have m_Watch := m_Watch G
  obtain ⟨fd, F⟩ := G.d_least_watch
  refine ⟨fd, fn_sound F S_least_watch rfl rfl (by decide) fun cdv A outer s H E W hr tk => ?_, F⟩
  exact sss_cons (ss_expr (se_callD d_need_watch_1 hr (by decide) tk (sa_cons (se_var 0) (sa_nil))))
    (sss_cons (ss_asg (S := [1, 2]) (se_call c_least_tables hr (by decide) tk (sa_cons (se_prop G.cls_Watch G.pr_Watch_moves p_Watch_moves.1 p_Watch_moves.2 hr (by decide) (se_var 0)) (sa_cons (se_prop G.cls_Watch G.pr_Watch_words p_Watch_words.1 p_Watch_words.2 hr (by decide) (se_var 0)) (sa_nil)))) (sg_tup rfl (sgs_cons (sg_name S_least_watch.nd (by decide)) (sgs_cons (sg_name S_least_watch.nd (by decide)) (sgs_nil)))))
    (sss_one (ss_ret (se_make m_Watch hr (by decide) tk (sa_cons (se_var 1) (sa_cons (se_var 2) (sa_nil)))))))
theorem c_least_watch (G : Gd P w K mg base) : Cal P w K mg base (Tt K) "least_watch" 9 ["watch"] W_least_watch := by
  obtain ⟨fd, F1, F⟩ := s_least_watch G
  exact ⟨⟨fd, F1, F.bindsN fun _ _ _ _ _ _ us hl => match us, hl with | [_], _ => rfl⟩, G.g_least_watch, F.kp⟩
theorem S_led_from : FnScope ["watch", "place", "row", "kind"] ["watch", "place", "row"] (defScope st_led_from) := ⟨rfl, rfl, rfl, by decide +kernel, rfl, by decide +kernel, by decide +kernel⟩
theorem s_led_from (G : Gd P w K mg base) : ∃ fd, FnA P w K mg base (Tt K) 3 (He.ga K "led_from") fd ["watch", "place", "row"] W_led_from ∧ FunD K "led_from" "led_from" (defArgs st_led_from) (defBody st_led_from) (defScope st_led_from) [] [] (He.ga K "led_from") fd := by
  obtain ⟨fd_moves, p_Watch_moves⟩ := s_Watch_moves G
  obtain ⟨fd, F⟩ := G.d_led_from
  refine ⟨fd, fn_sound F S_led_from rfl rfl (by decide) fun cdv A outer s H E W hr tk => ?_, F⟩
  exact sss_cons (ss_for (S := [3]) (passes_of rfl) rfl (si_seq (se_var 2)) (sg_name S_led_from.nd (by decide))
    (sss_one (ss_set (se_ix hr.u1 (se_ix hr.u1 (se_prop G.cls_Watch G.pr_Watch_moves p_Watch_moves.1 p_Watch_moves.2 hr (by decide) (se_var 0)) (se_var 1)) (se_var 3)) S_led_from.nd)))
    (sss_one (ss_ret (se_var 1)))
theorem c_led_from (G : Gd P w K mg base) : Cal P w K mg base (Tt K) "led_from" 3 ["watch", "place", "row"] W_led_from := by
  obtain ⟨fd, F1, F⟩ := s_led_from G
  exact ⟨⟨fd, F1, F.bindsN fun _ _ _ _ _ _ us hl => match us, hl with | [_, _, _], _ => rfl⟩, G.g_led_from, F.kp⟩
theorem S_is_short_list : FnScope ["thing"] ["thing"] (defScope st_is_short_list) := ⟨rfl, rfl, rfl, by decide +kernel, rfl, by decide +kernel, by decide +kernel⟩
theorem s_is_short_list (G : Gd P w K mg base) : ∃ fd, FnA P w K mg base (Tt K) 2 (He.ga K "is_short_list") fd ["thing"] W_is_short_list ∧ FunD K "is_short_list" "is_short_list" (defArgs st_is_short_list) (defBody st_is_short_list) (defScope st_is_short_list) [] [] (He.ga K "is_short_list") fd := by
  have c_is_list := c_is_list G
  obtain ⟨fd, F⟩ := G.d_is_short_list
  refine ⟨fd, fn_sound F S_is_short_list rfl rfl (by decide) fun cdv A outer s H E W hr tk => ?_, F⟩
  exact sss_one (ss_ret (se_and (se_call c_is_list hr (by decide) tk (sa_cons (se_var 0) (sa_nil))) (se_one (se_cmp (op_leS) (se_blt (ca_len) rfl G.f_len rfl (sa_cons (se_var 0) (sa_nil))) (se_gint rfl G.c_MOST_EVENTS) rfl))))
theorem c_is_short_list (G : Gd P w K mg base) : Cal P w K mg base (Tt K) "is_short_list" 2 ["thing"] W_is_short_list := by
  obtain ⟨fd, F1, F⟩ := s_is_short_list G
  exact ⟨⟨fd, F1, F.bindsN fun _ _ _ _ _ _ us hl => match us, hl with | [_], _ => rfl⟩, G.g_is_short_list, F.kp⟩
theorem S_need_row_of_lam0 : NScope ["item", "kinds"] ["item"] ["kinds"] d_need_row_of_lam0.scope := nscope_by (by decide +kernel)
theorem lo_need_row_of_lam0 (G : Gd P w K mg base) : LamOk P w K mg base (Tt K) 3 d_need_row_of_lam0 ["item", "kinds"] ["item"] ["kinds"] 1 2 B_need_row_of_lam0 := by
  have c_is_between := c_is_between G
  refine ⟨S_need_row_of_lam0, rfl, rfl, fun cl pm cv ctv us hl => match us, hl with | [_], _ => rfl, fun cl f c A outer s H E W hr tk => ?_⟩
  exact se_call c_is_between hr (by decide) tk (sa_cons (se_var 0) (sa_cons (se_int) (sa_cons (se_bin op_subS (se_var 1) (se_int)) (sa_nil))))
theorem S_need_row_of : FnScope ["kinds", "row", "index"] ["kinds", "row"] (defScope st_need_row_of) := ⟨rfl, rfl, rfl, by decide +kernel, rfl, by decide +kernel, by decide +kernel⟩
theorem s_need_row_of (G : Gd P w K mg base) : ∃ fd, FnA P w K mg base (Tt K) 6 (He.ga K "need_row_of") fd ["kinds", "row"] W_need_row_of ∧ FunD K "need_row_of" "need_row_of" (defArgs st_need_row_of) (defBody st_need_row_of) (defScope st_need_row_of) [] [] (He.ga K "need_row_of") fd := by
  have c_is_short_list := c_is_short_list G
  have cf_first_wrong := cf_first_wrong G
  have x_BadRow := x_BadRow G
  have lo_need_row_of_lam0 := lo_need_row_of_lam0 G
  obtain ⟨fd, F⟩ := G.d_need_row_of
  refine ⟨fd, fn_soundC (p := ("need_row_of", none)) F S_need_row_of rfl rfl (by decide) fun cdv A outer s H E W hcdv hr tk => ?_, F⟩
  refine sss_cons (ss_if (st_not (st_val (se_call c_is_short_list hr (by decide) tk (sa_cons (se_var 1) (sa_nil)))))
    (sss_one (ss_raise1 x_BadRow rfl hr (by decide) tk (se_non)))
    (sss_nil))
    (sss_cons (ss_set (se_callL1 cf_first_wrong hr (by decide) rfl tk pNo_ok ?la_need_row_of_lam0 lo_need_row_of_lam0 (se_var 1)) S_need_row_of.nd)
    (sss_one (ss_if (st_cmp (op_notNS) (se_var 2) (se_non) rfl)
    (sss_one (ss_raise1 x_BadRow rfl hr (by decide) tk (se_var 2)))
    (sss_nil))))
  case la_need_row_of_lam0 =>
    have h0 : tf[1]? = some ((("need_row_of", none) : He.Defn), lamQ "need_row_of") := rfl
    have hm := List.mem_of_getElem? h0
    have h1 := G.tb _ hm
    have h2 := tabNB_ok G.tabs hm
    refine lamAt_by h1 hcdv h2.1 h2.2 ?a ?b (sc := defScope st_need_row_of) ?c (fr := ["kinds"]) ?d ?e
    case a => exact lamQ_eq _ _ _ _ _
    case b => rfl
    case c => rfl
    case d => decide +kernel
    case e => rfl
theorem c_need_row_of (G : Gd P w K mg base) : Cal P w K mg base (Tt K) "need_row_of" 6 ["kinds", "row"] W_need_row_of := by
  obtain ⟨fd, F1, F⟩ := s_need_row_of G
  exact ⟨⟨fd, F1, F.bindsN fun _ _ _ _ _ _ us hl => match us, hl with | [_, _], _ => rfl⟩, G.g_need_row_of, F.kp⟩
theorem S_Watch_kinds : FnScope ["self"] ["self"] (defScope st_Watch_kinds) := ⟨rfl, rfl, rfl, by decide +kernel, rfl, by decide +kernel, by decide +kernel⟩
theorem s_Watch_kinds (G : Gd P w K mg base) : ∃ fd, FnA P w K mg base (Tt K) 1 (PyH.getAt "Watch" "kinds" K) fd ["self"] W_Watch_kinds ∧ Binds K fd ["self"] [] := by
  obtain ⟨fd, F⟩ := G.d_Watch_kinds
  refine ⟨fd, fn_sound F S_Watch_kinds rfl rfl (by decide) fun cdv A outer s H E W hr tk => ?_, F.bindsN fun _ _ _ _ _ _ us hl => match us, hl with | [_], _ => rfl⟩
  exact sss_one (ss_ret (se_blt (ca_len) rfl G.f_len rfl (sa_cons (se_ix hr.u1 (se_fld G.cls_Watch G.na_Watch_own_moves (se_var 0)) (se_int)) (sa_nil))))
theorem S_need_row : FnScope ["watch", "row"] ["watch", "row"] (defScope st_need_row) := ⟨rfl, rfl, rfl, by decide +kernel, rfl, by decide +kernel, by decide +kernel⟩
theorem s_need_row (G : Gd P w K mg base) : ∃ fd, FnA P w K mg base (Tt K) 7 (He.ga K "need_row") fd ["watch", "row"] W_need_row ∧ FunD K "need_row" "need_row" (defArgs st_need_row) (defBody st_need_row) (defScope st_need_row) [] [] (He.ga K "need_row") fd := by
  have c_need_row_of := c_need_row_of G
  obtain ⟨fd_kinds, p_Watch_kinds⟩ := s_Watch_kinds G
  obtain ⟨fd, F⟩ := G.d_need_row
  refine ⟨fd, fn_sound F S_need_row rfl rfl (by decide) fun cdv A outer s H E W hr tk => ?_, F⟩
  exact sss_one (ss_expr (se_call c_need_row_of hr (by decide) tk (sa_cons (se_prop G.cls_Watch G.pr_Watch_kinds p_Watch_kinds.1 p_Watch_kinds.2 hr (by decide) (se_var 0)) (sa_cons (se_var 1) (sa_nil)))))
theorem c_need_row (G : Gd P w K mg base) : Cal P w K mg base (Tt K) "need_row" 7 ["watch", "row"] W_need_row := by
  obtain ⟨fd, F1, F⟩ := s_need_row G
  exact ⟨⟨fd, F1, F.bindsN fun _ _ _ _ _ _ us hl => match us, hl with | [_, _], _ => rfl⟩, G.g_need_row, F.kp⟩
theorem S_need_both : FnScope ["watch", "row"] ["watch", "row"] (defScope st_need_both) := ⟨rfl, rfl, rfl, by decide +kernel, rfl, by decide +kernel, by decide +kernel⟩
theorem s_need_both (G : Gd P w K mg base) : ∃ fd, FnA P w K mg base (Tt K) 8 (He.ga K "need_both") fd ["watch", "row"] W_need_both ∧ FunD K "need_both" "need_both" (defArgs st_need_both) (defBody st_need_both) (defScope st_need_both) [] [] (He.ga K "need_both") fd := by
  have c_need_row := c_need_row G
  have d_need_watch_1 := d_need_watch_1 G
  obtain ⟨fd, F⟩ := G.d_need_both
  refine ⟨fd, fn_sound F S_need_both rfl rfl (by decide) fun cdv A outer s H E W hr tk => ?_, F⟩
  exact sss_cons (ss_expr (se_callD d_need_watch_1 hr (by decide) tk (sa_cons (se_var 0) (sa_nil))))
    (sss_one (ss_expr (se_call c_need_row hr (by decide) tk (sa_cons (se_var 0) (sa_cons (se_var 1) (sa_nil))))))
theorem c_need_both (G : Gd P w K mg base) : Cal P w K mg base (Tt K) "need_both" 8 ["watch", "row"] W_need_both := by
  obtain ⟨fd, F1, F⟩ := s_need_both G
  exact ⟨⟨fd, F1, F.bindsN fun _ _ _ _ _ _ us hl => match us, hl with | [_, _], _ => rfl⟩, G.g_need_both, F.kp⟩
theorem S_place_behind : FnScope ["watch", "row"] ["watch", "row"] (defScope st_place_behind) := ⟨rfl, rfl, rfl, by decide +kernel, rfl, by decide +kernel, by decide +kernel⟩
theorem s_place_behind (G : Gd P w K mg base) : ∃ fd, FnA P w K mg base (Tt K) 9 (He.ga K "place_behind") fd ["watch", "row"] W_place_behind ∧ FunD K "place_behind" "place_behind" (defArgs st_place_behind) (defBody st_place_behind) (defScope st_place_behind) [] [] (He.ga K "place_behind") fd := by
  have c_led_from := c_led_from G
  have c_need_both := c_need_both G
  obtain ⟨fd, F⟩ := G.d_place_behind
  refine ⟨fd, fn_sound F S_place_behind rfl rfl (by decide) fun cdv A outer s H E W hr tk => ?_, F⟩
  exact sss_cons (ss_expr (se_call c_need_both hr (by decide) tk (sa_cons (se_var 0) (sa_cons (se_var 1) (sa_nil)))))
    (sss_one (ss_ret (se_call c_led_from hr (by decide) tk (sa_cons (se_var 0) (sa_cons (se_int) (sa_cons (se_var 1) (sa_nil)))))))
theorem c_place_behind (G : Gd P w K mg base) : Cal P w K mg base (Tt K) "place_behind" 9 ["watch", "row"] W_place_behind := by
  obtain ⟨fd, F1, F⟩ := s_place_behind G
  exact ⟨⟨fd, F1, F.bindsN fun _ _ _ _ _ _ us hl => match us, hl with | [_, _], _ => rfl⟩, G.g_place_behind, F.kp⟩
theorem S_places_reached : FnScope ["watch"] ["watch"] (defScope st_places_reached) := ⟨rfl, rfl, rfl, by decide +kernel, rfl, by decide +kernel, by decide +kernel⟩
theorem s_places_reached (G : Gd P w K mg base) : ∃ fd, FnA P w K mg base (Tt K) 4 (He.ga K "places_reached") fd ["watch"] W_places_reached ∧ FunD K "places_reached" "places_reached" (defArgs st_places_reached) (defBody st_places_reached) (defScope st_places_reached) [] [] (He.ga K "places_reached") fd := by
  have c_found_places := c_found_places G
  have d_need_watch_1 := d_need_watch_1 G
  obtain ⟨fd_moves, p_Watch_moves⟩ := s_Watch_moves G
  obtain ⟨fd, F⟩ := G.d_places_reached
  refine ⟨fd, fn_sound F S_places_reached rfl rfl (by decide) fun cdv A outer s H E W hr tk => ?_, F⟩
  exact sss_cons (ss_expr (se_callD d_need_watch_1 hr (by decide) tk (sa_cons (se_var 0) (sa_nil))))
    (sss_one (ss_ret (se_bltT (ca_tuple) rfl G.f_tuple rfl (sa_cons (se_blt (ca_sorted) rfl G.f_sorted rfl (sa_cons (se_call c_found_places hr (by decide) tk (sa_cons (se_prop G.cls_Watch G.pr_Watch_moves p_Watch_moves.1 p_Watch_moves.2 hr (by decide) (se_var 0)) (sa_cons (se_int) (sa_nil)))) (sa_nil))) (sa_nil)))))
theorem c_places_reached (G : Gd P w K mg base) : Cal P w K mg base (Tt K) "places_reached" 4 ["watch"] W_places_reached := by
  obtain ⟨fd, F1, F⟩ := s_places_reached G
  exact ⟨⟨fd, F1, F.bindsN fun _ _ _ _ _ _ us hl => match us, hl with | [_], _ => rfl⟩, G.g_places_reached, F.kp⟩
theorem k_places_reached_k0 (G : Gd P w K mg base) : CalK P w K mg base (Tt K) "places_reached" 4 ["watch"] W_places_reached ["watch"] [0] := by
  obtain ⟨fd, F1, F2⟩ := s_places_reached G
  exact ⟨bindsKw F1 F2 fun kV doc pm an cdv ct ws hl => match ws, hl with | [_], _ => rfl, by decide, G.g_places_reached, F2.kp⟩
theorem S_verdict_of : FnScope ["watch", "row"] ["watch", "row"] (defScope st_verdict_of) := ⟨rfl, rfl, rfl, by decide +kernel, rfl, by decide +kernel, by decide +kernel⟩
theorem s_verdict_of (G : Gd P w K mg base) : ∃ fd, FnA P w K mg base (Tt K) 9 (He.ga K "verdict_of") fd ["watch", "row"] W_verdict_of ∧ FunD K "verdict_of" "verdict_of" (defArgs st_verdict_of) (defBody st_verdict_of) (defScope st_verdict_of) [] [] (He.ga K "verdict_of") fd := by
  have c_led_from := c_led_from G
  have c_need_both := c_need_both G
  obtain ⟨fd_words, p_Watch_words⟩ := s_Watch_words G
  obtain ⟨fd, F⟩ := G.d_verdict_of
  refine ⟨fd, fn_sound F S_verdict_of rfl rfl (by decide) fun cdv A outer s H E W hr tk => ?_, F⟩
  exact sss_cons (ss_expr (se_call c_need_both hr (by decide) tk (sa_cons (se_var 0) (sa_cons (se_var 1) (sa_nil)))))
    (sss_one (ss_ret (se_ix hr.u1 (se_prop G.cls_Watch G.pr_Watch_words p_Watch_words.1 p_Watch_words.2 hr (by decide) (se_var 0)) (se_call c_led_from hr (by decide) tk (sa_cons (se_var 0) (sa_cons (se_int) (sa_cons (se_var 1) (sa_nil))))))))
theorem c_verdict_of (G : Gd P w K mg base) : Cal P w K mg base (Tt K) "verdict_of" 9 ["watch", "row"] W_verdict_of := by
  obtain ⟨fd, F1, F⟩ := s_verdict_of G
  exact ⟨⟨fd, F1, F.bindsN fun _ _ _ _ _ _ us hl => match us, hl with | [_, _], _ => rfl⟩, G.g_verdict_of, F.kp⟩
theorem S_word_counts : FnScope ["watch", "length", "many", "lap", "later", "place", "number", "goal", "found"] ["watch", "length"] (defScope st_word_counts) := ⟨rfl, rfl, rfl, by decide +kernel, rfl, by decide +kernel, by decide +kernel⟩
theorem s_word_counts (G : Gd P w K mg base) : ∃ fd, FnA P w K mg base (Tt K) 4 (He.ga K "word_counts") fd ["watch", "length"] W_word_counts ∧ FunD K "word_counts" "word_counts" (defArgs st_word_counts) (defBody st_word_counts) (defScope st_word_counts) [] [] (He.ga K "word_counts") fd := by
  have c_is_between := c_is_between G
  have d_need_watch_1 := d_need_watch_1 G
  obtain ⟨fd_moves, p_Watch_moves⟩ := s_Watch_moves G
  obtain ⟨fd_words, p_Watch_words⟩ := s_Watch_words G
  have x_BadNumber := x_BadNumber G
  obtain ⟨fd, F⟩ := G.d_word_counts
  refine ⟨fd, fn_sound F S_word_counts rfl rfl (by decide) fun cdv A outer s H E W hr tk => ?_, F⟩
  exact sss_cons (ss_expr (se_callD d_need_watch_1 hr (by decide) tk (sa_cons (se_var 0) (sa_nil))))
    (sss_cons (ss_if (st_not (st_val (se_call c_is_between hr (by decide) tk (sa_cons (se_var 1) (sa_cons (se_int) (sa_cons (se_gint rfl G.c_MOST_EVENTS) (sa_nil)))))))
    (sss_one (ss_raise1 x_BadNumber rfl hr (by decide) tk (se_str)))
    (sss_nil))
    (sss_cons (ss_set (se_bin op_mulAllS (se_lst (sa_cons (se_int) (sa_nil))) (se_blt (ca_len) rfl G.f_len rfl (sa_cons (se_prop G.cls_Watch G.pr_Watch_moves p_Watch_moves.1 p_Watch_moves.2 hr (by decide) (se_var 0)) (sa_nil)))) S_word_counts.nd)
    (sss_cons (ss_asg (S := []) (se_int) (sg_ix hr.u1 (se_var 2) (se_int)))
    (sss_cons (ss_for (S := [3]) (passes_of rfl) rfl (si_range1 G.f_range (sa_cons (se_var 1) (sa_nil))) (sg_name S_word_counts.nd (by decide))
    (sss_cons (ss_set (se_bin op_mulAllS (se_lst (sa_cons (se_int) (sa_nil))) (se_blt (ca_len) rfl G.f_len rfl (sa_cons (se_var 2) (sa_nil)))) S_word_counts.nd)
    (sss_cons (ss_for (S := [5, 6]) (passes_of rfl) rfl (si_enum G.f_enumerate (sa_cons (se_var 2) (sa_nil))) (sg_tup rfl (sgs_cons (sg_name S_word_counts.nd (by decide)) (sgs_cons (sg_name S_word_counts.nd (by decide)) (sgs_nil))))
    (sss_one (ss_for (S := [7]) (passes_of rfl) rfl (si_seq (se_ix hr.u1 (se_prop G.cls_Watch G.pr_Watch_moves p_Watch_moves.1 p_Watch_moves.2 hr (by decide) (se_var 0)) (se_var 5))) (sg_name S_word_counts.nd (by decide))
    (sss_one (ss_asg (S := []) (se_bin op_addS (se_ix hr.u1 (se_var 4) (se_var 7)) (se_var 6)) (sg_ix hr.u1 (se_var 4) (se_var 7)))))))
    (sss_one (ss_set (se_var 4) S_word_counts.nd)))))
    (sss_cons (ss_set (se_bin op_mulAllS (se_lst (sa_cons (se_int) (sa_nil))) (se_bin op_addS (se_gint rfl G.c_MOST_WORD) (se_int))) S_word_counts.nd)
    (sss_cons (ss_for (S := [5, 6]) (passes_of rfl) rfl (si_enum G.f_enumerate (sa_cons (se_var 2) (sa_nil))) (sg_tup rfl (sgs_cons (sg_name S_word_counts.nd (by decide)) (sgs_cons (sg_name S_word_counts.nd (by decide)) (sgs_nil))))
    (sss_one (ss_asg (S := []) (se_bin op_addS (se_ix hr.u1 (se_var 8) (se_ix hr.u1 (se_prop G.cls_Watch G.pr_Watch_words p_Watch_words.1 p_Watch_words.2 hr (by decide) (se_var 0)) (se_var 5))) (se_var 6)) (sg_ix hr.u1 (se_var 8) (se_ix hr.u1 (se_prop G.cls_Watch G.pr_Watch_words p_Watch_words.1 p_Watch_words.2 hr (by decide) (se_var 0)) (se_var 5))))))
    (sss_one (ss_ret (se_bltT (ca_tuple) rfl G.f_tuple rfl (sa_cons (se_var 8) (sa_nil)))))))))))
theorem c_word_counts (G : Gd P w K mg base) : Cal P w K mg base (Tt K) "word_counts" 4 ["watch", "length"] W_word_counts := by
  obtain ⟨fd, F1, F⟩ := s_word_counts G
  exact ⟨⟨fd, F1, F.bindsN fun _ _ _ _ _ _ us hl => match us, hl with | [_, _], _ => rfl⟩, G.g_word_counts, F.kp⟩
theorem k_word_counts_k1_0 (G : Gd P w K mg base) : CalK P w K mg base (Tt K) "word_counts" 4 ["watch", "length"] W_word_counts ["length", "watch"] [1, 0] := by
  obtain ⟨fd, F1, F2⟩ := s_word_counts G
  exact ⟨bindsKw F1 F2 fun kV doc pm an cdv ct ws hl => match ws, hl with | [_, _], _ => rfl, by decide, G.g_word_counts, F2.kp⟩
theorem S_shortest_rows : FnScope ["watch", "found", "line", "spot", "kind", "place"] ["watch"] (defScope st_shortest_rows) := ⟨rfl, rfl, rfl, by decide +kernel, rfl, by decide +kernel, by decide +kernel⟩
theorem s_shortest_rows (G : Gd P w K mg base) : ∃ fd, FnA P w K mg base (Tt K) 3 (He.ga K "shortest_rows") fd ["watch"] W_shortest_rows ∧ FunD K "shortest_rows" "shortest_rows" (defArgs st_shortest_rows) (defBody st_shortest_rows) (defScope st_shortest_rows) [] [] (He.ga K "shortest_rows") fd := by
  obtain ⟨fd_moves, p_Watch_moves⟩ := s_Watch_moves G
  obtain ⟨fd, F⟩ := G.d_shortest_rows
  refine ⟨fd, fn_sound F S_shortest_rows rfl rfl (by decide) fun cdv A outer s H E W hr tk => ?_, F⟩
  exact sss_cons (ss_par3 rfl S_shortest_rows.nd (by decide) (by decide) (by decide) (sa_cons (se_disp (sp_cons (se_int) (se_tup (sa_nil)) (sp_nil))) (sa_cons (se_lst (sa_cons (se_int) (sa_nil))) (sa_cons (se_int) (sa_nil)))))
    (sss_cons (ss_while (passes_of rfl) (st_cmp (op_ltS) (se_var 3) (se_blt (ca_len) rfl G.f_len rfl (sa_cons (se_var 2) (sa_nil))) rfl)
    (sss_cons (ss_for (S := [4, 5]) (passes_of rfl) rfl (si_enum G.f_enumerate (sa_cons (se_ix hr.u1 (se_prop G.cls_Watch G.pr_Watch_moves p_Watch_moves.1 p_Watch_moves.2 hr (by decide) (se_var 0)) (se_ix hr.u1 (se_var 2) (se_var 3))) (sa_nil))) (sg_tup rfl (sgs_cons (sg_name S_shortest_rows.nd (by decide)) (sgs_cons (sg_name S_shortest_rows.nd (by decide)) (sgs_nil))))
    (sss_one (ss_if (st_cmp (op_notInAllS hr.u65) (se_var 5) (se_var 1) rfl)
    (sss_cons (ss_asg (S := []) (se_tup (sa_star (se_ix hr.u1 (se_var 1) (se_ix hr.u1 (se_var 2) (se_var 3))) (sa_cons (se_var 4) (sa_nil)))) (sg_ix hr.u1 (se_var 1) (se_var 5)))
    (sss_one (ss_expr (se_mt PySem.F.plainAttrs_list PySem.F.slot_list_append PySem.F.type_list_append (mt_appendS) (se_var 2) (sa_cons (se_var 5) (sa_nil))))))
    (sss_nil))))
    (sss_one (ss_set (se_bin op_addS (se_var 3) (se_int)) S_shortest_rows.nd))))
    (sss_one (ss_ret (se_var 1))))
theorem c_shortest_rows (G : Gd P w K mg base) : Cal P w K mg base (Tt K) "shortest_rows" 3 ["watch"] W_shortest_rows := by
  obtain ⟨fd, F1, F⟩ := s_shortest_rows G
  exact ⟨⟨fd, F1, F.bindsN fun _ _ _ _ _ _ us hl => match us, hl with | [_], _ => rfl⟩, G.g_shortest_rows, F.kp⟩
theorem S_word_rows : FnScope ["watch", "rows", "found", "word", "several", "place"] ["watch"] (defScope st_word_rows) := ⟨rfl, rfl, rfl, by decide +kernel, rfl, by decide +kernel, by decide +kernel⟩
theorem s_word_rows (G : Gd P w K mg base) : ∃ fd, FnA P w K mg base (Tt K) 4 (He.ga K "word_rows") fd ["watch"] W_word_rows ∧ FunD K "word_rows" "word_rows" (defArgs st_word_rows) (defBody st_word_rows) (defScope st_word_rows) [] [] (He.ga K "word_rows") fd := by
  have c_shortest_rows := c_shortest_rows G
  have d_need_watch_1 := d_need_watch_1 G
  obtain ⟨fd_words, p_Watch_words⟩ := s_Watch_words G
  obtain ⟨fd, F⟩ := G.d_word_rows
  refine ⟨fd, fn_sound F S_word_rows rfl rfl (by decide) fun cdv A outer s H E W hr tk => ?_, F⟩
  exact sss_cons (ss_expr (se_callD d_need_watch_1 hr (by decide) tk (sa_cons (se_var 0) (sa_nil))))
    (sss_cons (ss_asg (S := [1, 2]) (se_tup (sa_cons (se_call c_shortest_rows hr (by decide) tk (sa_cons (se_var 0) (sa_nil))) (sa_cons (se_lst (sa_nil)) (sa_nil)))) (sg_tup rfl (sgs_cons (sg_name S_word_rows.nd (by decide)) (sgs_cons (sg_name S_word_rows.nd (by decide)) (sgs_nil)))))
    (sss_cons (ss_for (S := [3]) (passes_of rfl) rfl (si_range1 G.f_range (sa_cons (se_bin op_addS (se_gint rfl G.c_MOST_WORD) (se_int)) (sa_nil))) (sg_name S_word_rows.nd (by decide))
    (sss_cons (ss_lock (ss_setLc (i := 4) (own := [("place", 5)]) rfl S_word_rows.nd rfl (blkOk_by (by kernel_rfl)) (si_keys (se_var 1)) (fun _ _ _ _ _ => sg_name S_word_rows.nd (by decide)) (fun _ _ _ _ _ => sts_one (st_cmp (op_eqS hr.units) (se_ix hr.u1 (se_prop G.cls_Watch G.pr_Watch_words p_Watch_words.1 p_Watch_words.2 hr (by decide) (se_var 0)) (se_var 5)) (se_var 3) rfl)) (fun _ _ _ _ _ => se_tup (sa_cons (se_blt (ca_len) rfl G.f_len rfl (sa_cons (se_ix hr.u1 (se_var 1) (se_var 5)) (sa_nil))) (sa_cons (se_ix hr.u1 (se_var 1) (se_var 5)) (sa_nil))))))
    (sss_one (ss_expr (se_mt PySem.F.plainAttrs_list PySem.F.slot_list_append PySem.F.type_list_append (mt_appendS) (se_var 2) (sa_cons (se_if (st_cmp (op_neS hr.units) (se_var 4) (se_lst (sa_nil)) rfl) (se_ix hr.u1 (se_minD rfl hr G.f_min (sa_cons (se_var 4) (sa_nil))) (se_int)) (se_non)) (sa_nil)))))))
    (sss_one (ss_ret (se_bltT (ca_tuple) rfl G.f_tuple rfl (sa_cons (se_var 2) (sa_nil)))))))
theorem c_word_rows (G : Gd P w K mg base) : Cal P w K mg base (Tt K) "word_rows" 4 ["watch"] W_word_rows := by
  obtain ⟨fd, F1, F⟩ := s_word_rows G
  exact ⟨⟨fd, F1, F.bindsN fun _ _ _ _ _ _ us hl => match us, hl with | [_], _ => rfl⟩, G.g_word_rows, F.kp⟩
theorem k_word_rows_k0 (G : Gd P w K mg base) : CalK P w K mg base (Tt K) "word_rows" 4 ["watch"] W_word_rows ["watch"] [0] := by
  obtain ⟨fd, F1, F2⟩ := s_word_rows G
  exact ⟨bindsKw F1 F2 fun kV doc pm an cdv ct ws hl => match ws, hl with | [_], _ => rfl, by decide, G.g_word_rows, F2.kp⟩
theorem S_Watch_eq : FnScope ["self", "other"] ["self", "other"] (defScope st_Watch_eq) := ⟨rfl, rfl, rfl, by decide +kernel, rfl, by decide +kernel, by decide +kernel⟩
theorem s_Watch_eq (G : Gd P w K mg base) : ∃ fd, FnA P w K mg base (Tt K) 1 (He.ma K (He.ga K "Watch") "__eq__") fd ["self", "other"] W_Watch_eq ∧ Binds K fd ["self", "other"] [] := by
  obtain ⟨fd, F⟩ := G.d_Watch_eq
  refine ⟨fd, fn_sound F S_Watch_eq rfl rfl (by decide) fun cdv A outer s H E W hr tk => ?_, F.bindsN fun _ _ _ _ _ _ us hl => match us, hl with | [_, _], _ => rfl⟩
  exact sss_one (ss_ret (se_and (se_blt (ca_isi G.kt) rfl G.f_isinstance rfl (sa_cons (se_var 1) (sa_cons (se_glob rfl G.g_Watch) (sa_nil)))) (se_one (se_cmp (op_eqS hr.units) (se_tup (sa_cons (se_fld G.cls_Watch G.na_Watch_own_moves (se_var 0)) (sa_cons (se_fld G.cls_Watch G.na_Watch_own_words (se_var 0)) (sa_nil)))) (se_tup (sa_cons (se_fld G.cls_Watch G.na_Watch_own_moves (se_var 1)) (sa_cons (se_fld G.cls_Watch G.na_Watch_own_words (se_var 1)) (sa_nil)))) rfl))))
theorem S_law_lam0 : NScope ["thing"] ["thing"] [] d_law_lam0.scope := nscope_by (by decide +kernel)
theorem lo_law_lam0 (G : Gd P w K mg base) : LamOk P w K mg base (Tt K) 8 d_law_lam0 ["thing"] ["thing"] [] 1 1 B_law_lam0 := by
  have c_word_counts := c_word_counts G
  refine ⟨S_law_lam0, rfl, rfl, fun cl pm cv ctv us hl => match us, hl with | [_], _ => rfl, fun cl f c A outer s H E W hr tk => ?_⟩
  exact se_call c_word_counts hr (by decide) tk (sa_cons (se_var 0) (sa_cons (se_non) (sa_nil)))
theorem ph_Phi_word_rows_places_reached_least_watch_law_lam0 (G : Gd P w K mg base) : ∀ y F, Phi_word_rows_places_reached_least_watch_law_lam0 y F → ∀ fs s H, CloOk P w K mg base (Tt K) 9 fs s H y F := fun y F hy fs s H => by
  unfold Phi_word_rows_places_reached_least_watch_law_lam0 at hy
  rcases hy with ⟨e1, e2⟩ | ⟨e1, e2⟩ | ⟨e1, e2⟩ | ⟨f, c, e1, e2⟩
  · subst e1 e2
    exact gf_ok ((c_word_rows G).mono (by decide)) (fnAtK G.d_word_rows)
  · subst e1 e2
    exact gf_ok ((c_places_reached G).mono (by decide)) (fnAtK G.d_places_reached)
  · subst e1 e2
    exact gf_ok ((c_least_watch G).mono (by decide)) (fnAtK G.d_least_watch)
  · subst e1 e2
    exact clo0_ok (lo_law_lam0 G)
theorem S_law_lam1 : NScope ["work", "none"] [] ["work", "none"] d_law_lam1.scope := nscope_by (by decide +kernel)
theorem lo_law_lam1 (G : Gd P w K mg base) : LamOk P w K mg base (Tt K) 9 d_law_lam1 ["work", "none"] [] ["work", "none"] 0 2 B_law_lam1 := by
  refine ⟨S_law_lam1, rfl, rfl, fun cl pm cv ctv us hl => match us, hl with | [], _ => rfl, fun cl f c A outer s H E W hr tk => ?_⟩
  exact se_callP (fun x F hx => ph_Phi_word_rows_places_reached_least_watch_law_lam0 G x F hx _ _ _) rfl hr (by decide) tk (sa_cons (se_var 1) (sa_nil))
theorem S_law_lam2 : NScope ["here", "tape"] [] ["here", "tape"] d_law_lam2.scope := nscope_by (by decide +kernel)
theorem lo_law_lam2 (G : Gd P w K mg base) : LamOk P w K mg base (Tt K) 9 d_law_lam2 ["here", "tape"] [] ["here", "tape"] 0 2 B_law_lam2 := by
  have c__law_pick := c__law_pick G
  have c_word_counts := c_word_counts G
  refine ⟨S_law_lam2, rfl, rfl, fun cl pm cv ctv us hl => match us, hl with | [], _ => rfl, fun cl f c A outer s H E W hr tk => ?_⟩
  exact se_call c_word_counts hr (by decide) tk (sa_cons (se_var 0) (sa_cons (se_call c__law_pick hr (by decide) tk (sa_cons (se_var 1) (sa_cons (se_lst (sa_cons (se_non) (sa_cons (se_neg (se_int)) (sa_cons (se_int) (sa_cons (se_bl) (sa_nil)))))) (sa_nil)))) (sa_nil)))
theorem S_law : FnScope ["script", "tape", "lap", "watch", "here", "length", "rows", "reached", "small", "row", "none", "work", "caught", "falls", "last", "three", "far", "one"] ["script"] (defScope st_law) := ⟨rfl, rfl, rfl, by decide +kernel, rfl, by decide +kernel, by decide +kernel⟩
theorem s_law (G : Gd P w K mg base) : ∃ fd, FnA P w K mg base (Tt K) 12 (He.ga K "law") fd ["script"] W_law ∧ FunD K "law" "law" (defArgs st_law) (defBody st_law) (defScope st_law) [] [] (He.ga K "law") fd := by
  have c__law_begun := c__law_begun G
  have c__law_counted := c__law_counted G
  have c__law_draw := c__law_draw G
  have c__law_first_rows := c__law_first_rows G
  have c__law_form := c__law_form G
  have c__law_known := c__law_known G
  have c__law_made := c__law_made G
  have c__law_pick := c__law_pick G
  have c__law_place := c__law_place G
  have c__law_row := c__law_row G
  have c__law_small := c__law_small G
  have c__law_word := c__law_word G
  have c_least_watch := c_least_watch G
  have c_place_behind := c_place_behind G
  have c_places_reached := c_places_reached G
  have c_verdict_of := c_verdict_of G
  have c_word_counts := c_word_counts G
  have c_word_rows := c_word_rows G
  have k_places_reached_k0 := k_places_reached_k0 G
  have k_word_counts_k1_0 := k_word_counts_k1_0 G
  have k_word_rows_k0 := k_word_rows_k0 G
  have cf__law_caught := cf__law_caught G
  obtain ⟨fd_moves, p_Watch_moves⟩ := s_Watch_moves G
  have m_Watch := m_Watch G
  obtain ⟨fd_eq, c_eq⟩ := s_Watch_eq G
  have lo_law_lam0 := lo_law_lam0 G
  have lo_law_lam1 := lo_law_lam1 G
  have lo_law_lam2 := lo_law_lam2 G
  obtain ⟨fd, F⟩ := G.d_law
  refine ⟨fd, fn_soundC (p := ("law", none)) F S_law rfl rfl (by decide) fun cdv A outer s H E W hcdv hr tk => ?_, F⟩
  refine sss_cons (ss_set (se_call c__law_begun hr (by decide) tk (sa_cons (se_var 0) (sa_nil))) S_law.nd)
    (sss_cons (ss_for (S := [2]) (passes_of rfl) rfl (si_range1 G.f_range (sa_cons (se_bin op_addS (se_int) (se_blt (ca_min2 rfl) rfl G.f_min rfl (sa_cons (se_blt (ca_len) rfl G.f_len rfl (sa_cons (se_var 0) (sa_nil))) (sa_cons (se_int) (sa_nil))))) (sa_nil))) (sg_name S_law.nd (by decide))
    (sss_cons (ss_set (se_call c__law_form hr (by decide) tk (sa_cons (se_var 1) (sa_cons (se_int) (sa_nil)))) S_law.nd)
    (sss_cons (ss_asg (S := [4, 5]) (se_tup (sa_cons (se_call c__law_made hr (by decide) tk (sa_cons (se_var 3) (sa_nil))) (sa_cons (se_call c__law_draw hr (by decide) tk (sa_cons (se_var 1) (sa_cons (se_int) (sa_nil)))) (sa_nil)))) (sg_tup rfl (sgs_cons (sg_name S_law.nd (by decide)) (sgs_cons (sg_name S_law.nd (by decide)) (sgs_nil)))))
    (sss_cons (ss_asg (S := [6, 7]) (se_call c__law_first_rows hr (by decide) tk (sa_cons (se_var 3) (sa_nil))) (sg_tup rfl (sgs_cons (sg_name S_law.nd (by decide)) (sgs_cons (sg_name S_law.nd (by decide)) (sgs_nil)))))
    (sss_cons (ss_if (PW.pt (sw_or (st_cmp (op_neS hr.units) (se_callK k_word_rows_k0 hr (by decide) tk (sk_cons (se_var 4) (sk_nil))) (se_var 6) rfl) (sw_or1 (st_cmp (op_neS hr.units) (se_callK k_places_reached_k0 hr (by decide) tk (sk_cons (se_var 4) (sk_nil))) (se_var 7) rfl))))
    (sss_one (ss_ret (se_bl)))
    (sss_nil))
    (sss_cons (ss_if (PW.pt (sw_or (st_cmp (op_neS hr.units) (se_call c_word_counts hr (by decide) tk (sa_cons (se_var 4) (sa_cons (se_var 5) (sa_nil)))) (se_call c__law_counted hr (by decide) tk (sa_cons (se_var 3) (sa_cons (se_var 5) (sa_nil)))) rfl) (sw_or1 (st_cmp (op_neS hr.units) (se_callK k_word_counts_k1_0 hr (by decide) tk (sk_cons (se_var 5) (sk_cons (se_var 4) (sk_nil)))) (se_call c__law_counted hr (by decide) tk (sa_cons (se_var 3) (sa_cons (se_var 5) (sa_nil)))) rfl))))
    (sss_one (ss_ret (se_bl)))
    (sss_nil))
    (sss_cons (ss_set (se_call c_least_watch hr (by decide) tk (sa_cons (se_var 4) (sa_nil))) S_law.nd)
    (sss_cons (ss_if (PW.pt (sw_or (st_cmp (op_neOwn G.eq_Watch c_eq.1 c_eq.2 hr (by decide) hr.u1) (se_var 8) (se_call c__law_small hr (by decide) tk (sa_cons (se_var 3) (sa_nil))) rfl) (sw_or (st_cmp (op_neOwn G.eq_Watch c_eq.1 c_eq.2 hr (by decide) hr.u1) (se_call c_least_watch hr (by decide) tk (sa_cons (se_var 8) (sa_nil))) (se_var 8) rfl) (sw_or (st_cmp (op_neS hr.units) (se_call c_word_rows hr (by decide) tk (sa_cons (se_var 8) (sa_nil))) (se_var 6) rfl) (sw_or1 (st_cmp (op_neS hr.units) (se_call c_places_reached hr (by decide) tk (sa_cons (se_var 8) (sa_nil))) (se_bltT (ca_tuple) rfl G.f_tuple rfl (sa_cons (se_listRg1 rfl G.f_list G.f_range (se_blt (ca_len) rfl G.f_len rfl (sa_cons (se_prop G.cls_Watch G.pr_Watch_moves p_Watch_moves.1 p_Watch_moves.2 hr (by decide) (se_var 8)) (sa_nil)))) (sa_nil))) rfl))))))
    (sss_one (ss_ret (se_bl)))
    (sss_nil))
    (sss_cons (ss_set (se_call c__law_row hr (by decide) tk (sa_cons (se_var 1) (sa_cons (se_var 3) (sa_cons (se_int) (sa_nil))))) S_law.nd)
    (sss_cons (ss_if (PW.pt (sw_or (st_cmp (op_neS hr.units) (se_call c_verdict_of hr (by decide) tk (sa_cons (se_var 8) (sa_cons (se_var 9) (sa_nil)))) (se_call c__law_word hr (by decide) tk (sa_cons (se_var 3) (sa_cons (se_var 9) (sa_nil)))) rfl) (sw_or1 (st_cmp (op_neS hr.units) (se_call c_place_behind hr (by decide) tk (sa_cons (se_var 4) (sa_cons (se_bltT (ca_list) rfl G.f_list rfl (sa_cons (se_var 9) (sa_nil))) (sa_nil)))) (se_call c__law_place hr (by decide) tk (sa_cons (se_var 3) (sa_cons (se_var 9) (sa_nil)))) rfl))))
    (sss_one (ss_ret (se_bl)))
    (sss_nil))
    (sss_cons (ss_if (st_cmp (op_neS hr.units) (se_lc (own := [("one", 17)]) rfl S_law.nd (blkOk_by (by kernel_rfl)) (si_seq (se_var 6)) (fun _ _ _ _ _ => sg_name S_law.nd (by decide)) (fun _ _ _ _ _ => sts_one (PW.pt (sw_and (st_cmp (op_notNS) (se_var 17) (se_non) rfl) (sw_and1 (st_cmp (op_neS hr.units) (se_call c__law_word hr (by decide) takes0 (sa_cons (se_var 3) (sa_cons (se_var 17) (sa_nil)))) (se_tupIx hr.u65 (se_var 6) (se_var 17)) rfl))))) (fun _ _ _ _ _ => se_int)) (se_lst (sa_nil)) rfl)
    (sss_one (ss_ret (se_bl)))
    (sss_nil))
    (sss_cons (ss_set (se_call c__law_pick hr (by decide) tk (sa_cons (se_var 1) (sa_cons (se_lst (sa_cons (se_non) (sa_cons (se_int) (sa_cons (se_tup (sa_cons (se_ix hr.u1 (se_var 3) (se_int)) (sa_cons (se_ix hr.u1 (se_var 3) (se_int)) (sa_nil)))) (sa_nil))))) (sa_nil)))) S_law.nd)
    (sss_cons (ss_for (S := [11]) (passes_of rfl) rfl (si_seq (se_lst (sa_cons (se_glob rfl G.g_word_rows) (sa_cons (se_glob rfl G.g_places_reached) (sa_cons (se_glob rfl G.g_least_watch) (sa_cons (se_lam0 ?la_law_lam0 (lamNf (by decide +kernel))) (sa_nil))))))) (sg_name S_law.nd (by decide))
    (sss_one (ss_if (st_not (st_val (se_blt (ca_isi G.kt) rfl G.f_isinstance rfl (sa_cons (se_callL0 cf__law_caught hr (by decide) rfl tk pNo_ok ?la_law_lam1 lo_law_lam1) (sa_cons (se_glob rfl G.g_NoWatch) (sa_nil))))))
    (sss_one (ss_ret (se_bl)))
    (sss_nil))))
    (sss_cons (ss_set (se_callL0 cf__law_caught hr (by decide) rfl tk pNo_ok ?la_law_lam2 lo_law_lam2) S_law.nd)
    (sss_one (ss_if (PW.pt (sw_or (st_not (st_val (se_blt (ca_isi G.kt) rfl G.f_isinstance rfl (sa_cons (se_var 12) (sa_cons (se_glob rfl G.g_BadNumber) (sa_nil)))))) (sw_or1 (st_cmp (op_neS hr.units) (se_xf G.xf_BadNumber G.xn_BadNumber_part (se_var 12)) (se_str) rfl))))
    (sss_one (ss_ret (se_bl)))
    (sss_nil)))))))))))))))))
    (sss_cons (ss_asg (S := [13, 14, 15]) (se_call0 c__law_known hr (by decide) tk) (sg_tup rfl (sgs_cons (sg_name S_law.nd (by decide)) (sgs_cons (sg_name S_law.nd (by decide)) (sgs_cons (sg_name S_law.nd (by decide)) (sgs_nil))))))
    (sss_cons (ss_set (se_make m_Watch hr (by decide) tk (sa_cons (se_lst (sa_cons (se_tup (sa_cons (se_int) (sa_cons (se_int) (sa_nil)))) (sa_cons (se_tup (sa_cons (se_int) (sa_cons (se_int) (sa_nil)))) (sa_nil)))) (sa_cons (se_lst (sa_cons (se_int) (sa_cons (se_int) (sa_nil)))) (sa_nil)))) S_law.nd)
    (sss_cons (ss_if (PW.pt (sw_or (st_cmp (op_neS hr.units) (se_call c_word_rows hr (by decide) tk (sa_cons (se_var 13) (sa_nil))) (se_tup (sa_cons (se_tup (sa_nil)) (sa_cons (se_tup (sa_cons (se_int) (sa_cons (se_int) (sa_nil)))) (sa_cons (se_non) (sa_cons (se_non) (sa_nil)))))) rfl) (sw_or (st_cmp (op_neS hr.units) (se_call c_places_reached hr (by decide) tk (sa_cons (se_var 16) (sa_nil))) (se_tup (sa_cons (se_int) (sa_nil))) rfl) (sw_or1 (st_cmp (op_neS hr.units) (se_call c_word_rows hr (by decide) tk (sa_cons (se_var 16) (sa_nil))) (se_tup (sa_cons (se_non) (sa_cons (se_non) (sa_cons (se_tup (sa_nil)) (sa_cons (se_non) (sa_nil)))))) rfl)))))
    (sss_one (ss_ret (se_bl)))
    (sss_nil))
    (sss_one (ss_ret (se_and (se_cmp (op_eqOwn G.eq_Watch c_eq.1 c_eq.2 hr (by decide) hr.units0) (se_call c_least_watch hr (by decide) tk (sa_cons (se_var 16) (sa_nil))) (se_make m_Watch hr (by decide) tk (sa_cons (se_lst (sa_cons (se_tup (sa_cons (se_int) (sa_cons (se_int) (sa_nil)))) (sa_nil))) (sa_cons (se_lst (sa_cons (se_int) (sa_nil))) (sa_nil)))) rfl) (se_and (se_cmp (op_eqS hr.units) (se_call c_word_counts hr (by decide) tk (sa_cons (se_var 13) (sa_cons (se_int) (sa_nil)))) (se_tup (sa_cons (se_int) (sa_cons (se_int) (sa_cons (se_int) (sa_cons (se_int) (sa_nil)))))) rfl) (se_one (se_cmp (op_eqS hr.units) (se_call c_places_reached hr (by decide) tk (sa_cons (se_var 13) (sa_nil))) (se_tup (sa_cons (se_int) (sa_cons (se_int) (sa_cons (se_int) (sa_nil))))) rfl))))))))))
  case la_law_lam0 =>
    have h0 : tf[2]? = some ((("law", none) : He.Defn), lamQ "law") := rfl
    have hm := List.mem_of_getElem? h0
    have h1 := G.tb _ hm
    have h2 := tabNB_ok G.tabs hm
    refine lamAt_by h1 hcdv h2.1 h2.2 ?a ?b (sc := defScope st_law) ?c (fr := []) ?d ?e
    case a => exact lamQ_eq _ _ _ _ _
    case b => rfl
    case c => rfl
    case d => decide +kernel
    case e => rfl
  case la_law_lam1 =>
    have h0 : tf[2]? = some ((("law", none) : He.Defn), lamQ "law") := rfl
    have hm := List.mem_of_getElem? h0
    have h1 := G.tb _ hm
    have h2 := tabNB_ok G.tabs hm
    refine lamAt_by h1 hcdv h2.1 h2.2 ?a ?b (sc := defScope st_law) ?c (fr := ["work", "none"]) ?d ?e
    case a => exact lamQ_eq _ _ _ _ _
    case b => rfl
    case c => rfl
    case d => decide +kernel
    case e => rfl
  case la_law_lam2 =>
    have h0 : tf[2]? = some ((("law", none) : He.Defn), lamQ "law") := rfl
    have hm := List.mem_of_getElem? h0
    have h1 := G.tb _ hm
    have h2 := tabNB_ok G.tabs hm
    refine lamAt_by h1 hcdv h2.1 h2.2 ?a ?b (sc := defScope st_law) ?c (fr := ["here", "tape"]) ?d ?e
    case a => exact lamQ_eq _ _ _ _ _
    case b => rfl
    case c => rfl
    case d => decide +kernel
    case e => rfl
theorem c_law (G : Gd P w K mg base) : Cal P w K mg base (Tt K) "law" 12 ["script"] W_law := by
  obtain ⟨fd, F1, F⟩ := s_law G
  exact ⟨⟨fd, F1, F.bindsN fun _ _ _ _ _ _ us hl => match us, hl with | [_], _ => rfl⟩, G.g_law, F.kp⟩
end
end K92
end
section
set_option Elab.async false
set_option linter.all false
set_option maxRecDepth 100000
set_option maxHeartbeats 0
namespace K92
open PySem L2 PySem.Spec PyProof.Rows NdefX PyA
def tfd : List He.Defn := [("need_moves", none), ("need_row_of", none), ("law", none)]
theorem tfd_mem {q : He.Defn × Str} (h : q ∈ tf) : q.1 ∈ tfd := (show q.1 ∈ tf.map (·.1) from List.mem_map.mpr ⟨q, h, rfl⟩)
/-! the head (printed by gen.py) -/
def fa : List He.Fa := [.free "abs", .free "all", .free "bool", .free "dict", .free "enumerate", .free "int", .free "isinstance", .free "len", .free "list", .free "min", .free "range", .free "set", .free "sorted", .free "super", .free "tuple", .glo "BadMoves", .glo "BadNumber", .glo "BadRow", .glo "BadWords", .glo "NoWatch", .glo "Watch", .glo "WatchError", .glo "_law_begun", .glo "_law_blend", .glo "_law_caught", .glo "_law_counted", .glo "_law_draw", .glo "_law_first_rows", .glo "_law_form", .glo "_law_known", .glo "_law_made", .glo "_law_pick", .glo "_law_place", .glo "_law_row", .glo "_law_small", .glo "_law_watch", .glo "_law_word", .glo "first_wrong", .glo "found_places", .glo "is_between", .glo "is_line", .glo "is_list", .glo "is_number", .glo "is_short_list", .glo "is_word", .glo "law", .glo "least_tables", .glo "least_watch", .glo "led_from", .glo "marks_of", .glo "need_both", .glo "need_moves", .glo "need_row", .glo "need_row_of", .glo "need_watch", .glo "need_words", .glo "numbered", .glo "place_behind", .glo "places_reached", .glo "shortest_rows", .glo "verdict_of", .glo "word_counts", .glo "word_rows", .int "MOST_EVENTS" 300, .int "MOST_KINDS" 4, .int "MOST_PLACES" 6, .int "MOST_WORD" 3, .cls "Watch", .noat "Watch" "own_moves", .noat "Watch" "own_words", .mkr "Watch"]
def dd__law_begun : He.DefD := ⟨("_law_begun", none), "_law_begun", "_law_begun", defArgs st__law_begun, defBody st__law_begun, defScope st__law_begun, [], []⟩
def dd__law_caught : He.DefD := ⟨("_law_caught", none), "_law_caught", "_law_caught", defArgs st__law_caught, defBody st__law_caught, defScope st__law_caught, [], []⟩
def dd__law_counted : He.DefD := ⟨("_law_counted", none), "_law_counted", "_law_counted", defArgs st__law_counted, defBody st__law_counted, defScope st__law_counted, [], []⟩
def dd__law_blend : He.DefD := ⟨("_law_blend", none), "_law_blend", "_law_blend", defArgs st__law_blend, defBody st__law_blend, defScope st__law_blend, [], []⟩
def dd__law_draw : He.DefD := ⟨("_law_draw", none), "_law_draw", "_law_draw", defArgs st__law_draw, defBody st__law_draw, defScope st__law_draw, [], []⟩
def dd__law_first_rows : He.DefD := ⟨("_law_first_rows", none), "_law_first_rows", "_law_first_rows", defArgs st__law_first_rows, defBody st__law_first_rows, defScope st__law_first_rows, [], []⟩
def dd__law_watch : He.DefD := ⟨("_law_watch", none), "_law_watch", "_law_watch", defArgs st__law_watch, defBody st__law_watch, defScope st__law_watch, [], []⟩
def dd__law_form : He.DefD := ⟨("_law_form", none), "_law_form", "_law_form", defArgs st__law_form, defBody st__law_form, defScope st__law_form, [], []⟩
def dd_first_wrong : He.DefD := ⟨("first_wrong", none), "first_wrong", "first_wrong", defArgs st_first_wrong, defBody st_first_wrong, defScope st_first_wrong, [], []⟩
def dd_is_list : He.DefD := ⟨("is_list", none), "is_list", "is_list", defArgs st_is_list, defBody st_is_list, defScope st_is_list, [], []⟩
def dd_is_number : He.DefD := ⟨("is_number", none), "is_number", "is_number", defArgs st_is_number, defBody st_is_number, defScope st_is_number, [], []⟩
def dd_is_between : He.DefD := ⟨("is_between", none), "is_between", "is_between", defArgs st_is_between, defBody st_is_between, defScope st_is_between, [], []⟩
def dd_is_line : He.DefD := ⟨("is_line", none), "is_line", "is_line", defArgs st_is_line, defBody st_is_line, defScope st_is_line, [], []⟩
def dd_need_moves : He.DefD := ⟨("need_moves", none), "need_moves", "need_moves", defArgs st_need_moves, defBody st_need_moves, defScope st_need_moves, [], []⟩
def dd_is_word : He.DefD := ⟨("is_word", none), "is_word", "is_word", defArgs st_is_word, defBody st_is_word, defScope st_is_word, [], []⟩
def dd_need_words : He.DefD := ⟨("need_words", none), "need_words", "need_words", defArgs st_need_words, defBody st_need_words, defScope st_need_words, [], []⟩
def dd_Watch_init : He.DefD := ⟨("Watch", some "__init__"), "__init__", "Watch.__init__", defArgs st_Watch_init, defBody st_Watch_init, defScope st_Watch_init, [], []⟩
def dd__law_known : He.DefD := ⟨("_law_known", none), "_law_known", "_law_known", defArgs st__law_known, defBody st__law_known, defScope st__law_known, [], []⟩
def dd__law_made : He.DefD := ⟨("_law_made", none), "_law_made", "_law_made", defArgs st__law_made, defBody st__law_made, defScope st__law_made, [], []⟩
def dd__law_pick : He.DefD := ⟨("_law_pick", none), "_law_pick", "_law_pick", defArgs st__law_pick, defBody st__law_pick, defScope st__law_pick, [], []⟩
def dd__law_place : He.DefD := ⟨("_law_place", none), "_law_place", "_law_place", defArgs st__law_place, defBody st__law_place, defScope st__law_place, [], []⟩
def dd__law_row : He.DefD := ⟨("_law_row", none), "_law_row", "_law_row", defArgs st__law_row, defBody st__law_row, defScope st__law_row, [], []⟩
def dd__law_small : He.DefD := ⟨("_law_small", none), "_law_small", "_law_small", defArgs st__law_small, defBody st__law_small, defScope st__law_small, [], []⟩
def dd__law_word : He.DefD := ⟨("_law_word", none), "_law_word", "_law_word", defArgs st__law_word, defBody st__law_word, defScope st__law_word, [], []⟩
def dd_found_places : He.DefD := ⟨("found_places", none), "found_places", "found_places", defArgs st_found_places, defBody st_found_places, defScope st_found_places, [], []⟩
def dd_numbered : He.DefD := ⟨("numbered", none), "numbered", "numbered", defArgs st_numbered, defBody st_numbered, defScope st_numbered, [], []⟩
def dd_marks_of : He.DefD := ⟨("marks_of", none), "marks_of", "marks_of", defArgs st_marks_of, defBody st_marks_of, defScope st_marks_of, [], []⟩
def dd_least_tables : He.DefD := ⟨("least_tables", none), "least_tables", "least_tables", defArgs st_least_tables, defBody st_least_tables, defScope st_least_tables, [], []⟩
def dd_need_watch : He.DefD := ⟨("need_watch", none), "need_watch", "need_watch", defArgs st_need_watch, defBody st_need_watch, defScope st_need_watch, [.non], []⟩
def dd_least_watch : He.DefD := ⟨("least_watch", none), "least_watch", "least_watch", defArgs st_least_watch, defBody st_least_watch, defScope st_least_watch, [], []⟩
def dd_led_from : He.DefD := ⟨("led_from", none), "led_from", "led_from", defArgs st_led_from, defBody st_led_from, defScope st_led_from, [], []⟩
def dd_is_short_list : He.DefD := ⟨("is_short_list", none), "is_short_list", "is_short_list", defArgs st_is_short_list, defBody st_is_short_list, defScope st_is_short_list, [], []⟩
def dd_need_row_of : He.DefD := ⟨("need_row_of", none), "need_row_of", "need_row_of", defArgs st_need_row_of, defBody st_need_row_of, defScope st_need_row_of, [], []⟩
def dd_need_row : He.DefD := ⟨("need_row", none), "need_row", "need_row", defArgs st_need_row, defBody st_need_row, defScope st_need_row, [], []⟩
def dd_need_both : He.DefD := ⟨("need_both", none), "need_both", "need_both", defArgs st_need_both, defBody st_need_both, defScope st_need_both, [], []⟩
def dd_place_behind : He.DefD := ⟨("place_behind", none), "place_behind", "place_behind", defArgs st_place_behind, defBody st_place_behind, defScope st_place_behind, [], []⟩
def dd_places_reached : He.DefD := ⟨("places_reached", none), "places_reached", "places_reached", defArgs st_places_reached, defBody st_places_reached, defScope st_places_reached, [], []⟩
def dd_verdict_of : He.DefD := ⟨("verdict_of", none), "verdict_of", "verdict_of", defArgs st_verdict_of, defBody st_verdict_of, defScope st_verdict_of, [], []⟩
def dd_word_counts : He.DefD := ⟨("word_counts", none), "word_counts", "word_counts", defArgs st_word_counts, defBody st_word_counts, defScope st_word_counts, [], []⟩
def dd_shortest_rows : He.DefD := ⟨("shortest_rows", none), "shortest_rows", "shortest_rows", defArgs st_shortest_rows, defBody st_shortest_rows, defScope st_shortest_rows, [], []⟩
def dd_word_rows : He.DefD := ⟨("word_rows", none), "word_rows", "word_rows", defArgs st_word_rows, defBody st_word_rows, defScope st_word_rows, [], []⟩
def dd_Watch_eq : He.DefD := ⟨("Watch", some "__eq__"), "__eq__", "Watch.__eq__", defArgs st_Watch_eq, defBody st_Watch_eq, defScope st_Watch_eq, [], []⟩
def dd_law : He.DefD := ⟨("law", none), "law", "law", defArgs st_law, defBody st_law, defScope st_law, [], []⟩
def fn : List He.DefD := [dd__law_begun, dd__law_caught, dd__law_counted, dd__law_blend, dd__law_draw, dd__law_first_rows, dd__law_watch, dd__law_form, dd_first_wrong, dd_is_list, dd_is_number, dd_is_between, dd_is_line, dd_need_moves, dd_is_word, dd_need_words, dd_Watch_init, dd__law_known, dd__law_made, dd__law_pick, dd__law_place, dd__law_row, dd__law_small, dd__law_word, dd_found_places, dd_numbered, dd_marks_of, dd_least_tables, dd_need_watch, dd_least_watch, dd_led_from, dd_is_short_list, dd_need_row_of, dd_need_row, dd_need_both, dd_place_behind, dd_places_reached, dd_verdict_of, dd_word_counts, dd_shortest_rows, dd_word_rows, dd_Watch_eq, dd_law]
def dp_ItemError_init : PyH.DefP := ⟨fun K => He.ma K (He.ga K "ItemError") "__init__", "__init__", "ItemError.__init__", defArgs st_ItemError_init, defBody st_ItemError_init, defScope st_ItemError_init, some "ItemError"⟩
def dp_PartError_init : PyH.DefP := ⟨fun K => He.ma K (He.ga K "PartError") "__init__", "__init__", "PartError.__init__", defArgs st_PartError_init, defBody st_PartError_init, defScope st_PartError_init, some "PartError"⟩
def dp_Watch_moves : PyH.DefP := ⟨fun K => PyH.getAt "Watch" "moves" K, "moves", "Watch.moves", defArgs st_Watch_moves, defBody st_Watch_moves, defScope st_Watch_moves, none⟩
def dp_Watch_words : PyH.DefP := ⟨fun K => PyH.getAt "Watch" "words" K, "words", "Watch.words", defArgs st_Watch_words, defBody st_Watch_words, defScope st_Watch_words, none⟩
def dp_Watch_kinds : PyH.DefP := ⟨fun K => PyH.getAt "Watch" "kinds" K, "kinds", "Watch.kinds", defArgs st_Watch_kinds, defBody st_Watch_kinds, defScope st_Watch_kinds, none⟩
def dps : List PyH.DefP := [dp_ItemError_init, dp_PartError_init, dp_Watch_moves, dp_Watch_words, dp_Watch_kinds]
def exK (K : PySem.W.Frag) : Bool := [propB K "Watch" "kinds", propB K "Watch" "moves", propB K "Watch" "words", eqB K "Watch", ktB K kt ci ce, etB K "WatchError" et_WatchError, xfB K (He.ga K "BadNumber"), noB K "BadNumber" "part", xiB K "BadMoves" "ItemError" "index", xiB K "BadNumber" "PartError" "part", xiB K "BadRow" "ItemError" "index", xiB K "BadWords" "ItemError" "index", xiB K "NoWatch" "PartError" "part", tabNB K tf].all id
theorem mkG {P : Program} {w : World} {K : PySem.W.Frag} {mg : Str → Option Value} {base h : Heap} (X : K.In h) (Gm : h.Ns mainGlobals mg) (c : He.SaysX fa fn [] tfd exK w h K) (c2 : PyH.SaysP "/claim/cut.py" dps K) (hf : ((P.main.file : Str) == "/claim/cut.py") = true) (hs : (P.main.scope.names.lookup ("super" : Str)).isSome = false) (tb : ∀ p ∈ tf, LamX.TabB base mg (He.cT K p.1).1 (He.cT K p.1).2) : Gd P w K mg base := by
  have cf : ∀ i (f : He.Fa), fa[i]? = some f → f.ok K = true := fun i f hi => SaysX_fact c i hi
  have ce : ∀ i (b : Bool), [propB K "Watch" "kinds", propB K "Watch" "moves", propB K "Watch" "words", eqB K "Watch", ktB K kt ci ce, etB K "WatchError" et_WatchError, xfB K (He.ga K "BadNumber"), noB K "BadNumber" "part", xiB K "BadMoves" "ItemError" "index", xiB K "BadNumber" "PartError" "part", xiB K "BadRow" "ItemError" "index", xiB K "BadWords" "ItemError" "index", xiB K "NoWatch" "PartError" "part", tabNB K tf][i]? = some b → b = true := fun i b hi => List.all_eq_true.mp c.more b (List.mem_of_getElem? hi)
  exact {
    f_abs := He.free_ok X Gm (cf 0 _ rfl)
    f_all := He.free_ok X Gm (cf 1 _ rfl)
    f_bool := He.free_ok X Gm (cf 2 _ rfl)
    f_dict := He.free_ok X Gm (cf 3 _ rfl)
    f_enumerate := He.free_ok X Gm (cf 4 _ rfl)
    f_int := He.free_ok X Gm (cf 5 _ rfl)
    f_isinstance := He.free_ok X Gm (cf 6 _ rfl)
    f_len := He.free_ok X Gm (cf 7 _ rfl)
    f_list := He.free_ok X Gm (cf 8 _ rfl)
    f_min := He.free_ok X Gm (cf 9 _ rfl)
    f_range := He.free_ok X Gm (cf 10 _ rfl)
    f_set := He.free_ok X Gm (cf 11 _ rfl)
    f_sorted := He.free_ok X Gm (cf 12 _ rfl)
    f_super := He.free_ok X Gm (cf 13 _ rfl)
    f_tuple := He.free_ok X Gm (cf 14 _ rfl)
    g_BadMoves := He.glo_ok X Gm (cf 15 _ rfl)
    g_BadNumber := He.glo_ok X Gm (cf 16 _ rfl)
    g_BadRow := He.glo_ok X Gm (cf 17 _ rfl)
    g_BadWords := He.glo_ok X Gm (cf 18 _ rfl)
    g_NoWatch := He.glo_ok X Gm (cf 19 _ rfl)
    g_Watch := He.glo_ok X Gm (cf 20 _ rfl)
    g_WatchError := He.glo_ok X Gm (cf 21 _ rfl)
    g__law_begun := He.glo_ok X Gm (cf 22 _ rfl)
    g__law_blend := He.glo_ok X Gm (cf 23 _ rfl)
    g__law_caught := He.glo_ok X Gm (cf 24 _ rfl)
    g__law_counted := He.glo_ok X Gm (cf 25 _ rfl)
    g__law_draw := He.glo_ok X Gm (cf 26 _ rfl)
    g__law_first_rows := He.glo_ok X Gm (cf 27 _ rfl)
    g__law_form := He.glo_ok X Gm (cf 28 _ rfl)
    g__law_known := He.glo_ok X Gm (cf 29 _ rfl)
    g__law_made := He.glo_ok X Gm (cf 30 _ rfl)
    g__law_pick := He.glo_ok X Gm (cf 31 _ rfl)
    g__law_place := He.glo_ok X Gm (cf 32 _ rfl)
    g__law_row := He.glo_ok X Gm (cf 33 _ rfl)
    g__law_small := He.glo_ok X Gm (cf 34 _ rfl)
    g__law_watch := He.glo_ok X Gm (cf 35 _ rfl)
    g__law_word := He.glo_ok X Gm (cf 36 _ rfl)
    g_first_wrong := He.glo_ok X Gm (cf 37 _ rfl)
    g_found_places := He.glo_ok X Gm (cf 38 _ rfl)
    g_is_between := He.glo_ok X Gm (cf 39 _ rfl)
    g_is_line := He.glo_ok X Gm (cf 40 _ rfl)
    g_is_list := He.glo_ok X Gm (cf 41 _ rfl)
    g_is_number := He.glo_ok X Gm (cf 42 _ rfl)
    g_is_short_list := He.glo_ok X Gm (cf 43 _ rfl)
    g_is_word := He.glo_ok X Gm (cf 44 _ rfl)
    g_law := He.glo_ok X Gm (cf 45 _ rfl)
    g_least_tables := He.glo_ok X Gm (cf 46 _ rfl)
    g_least_watch := He.glo_ok X Gm (cf 47 _ rfl)
    g_led_from := He.glo_ok X Gm (cf 48 _ rfl)
    g_marks_of := He.glo_ok X Gm (cf 49 _ rfl)
    g_need_both := He.glo_ok X Gm (cf 50 _ rfl)
    g_need_moves := He.glo_ok X Gm (cf 51 _ rfl)
    g_need_row := He.glo_ok X Gm (cf 52 _ rfl)
    g_need_row_of := He.glo_ok X Gm (cf 53 _ rfl)
    g_need_watch := He.glo_ok X Gm (cf 54 _ rfl)
    g_need_words := He.glo_ok X Gm (cf 55 _ rfl)
    g_numbered := He.glo_ok X Gm (cf 56 _ rfl)
    g_place_behind := He.glo_ok X Gm (cf 57 _ rfl)
    g_places_reached := He.glo_ok X Gm (cf 58 _ rfl)
    g_shortest_rows := He.glo_ok X Gm (cf 59 _ rfl)
    g_verdict_of := He.glo_ok X Gm (cf 60 _ rfl)
    g_word_counts := He.glo_ok X Gm (cf 61 _ rfl)
    g_word_rows := He.glo_ok X Gm (cf 62 _ rfl)
    c_MOST_EVENTS := He.int_ok X Gm (cf 63 _ rfl)
    c_MOST_KINDS := He.int_ok X Gm (cf 64 _ rfl)
    c_MOST_PLACES := He.int_ok X Gm (cf 65 _ rfl)
    c_MOST_WORD := He.int_ok X Gm (cf 66 _ rfl)
    cls_Watch := He.cls_ok (cf 67 _ rfl)
    na_Watch_own_moves := He.noat_ok (cf 68 _ rfl)
    na_Watch_own_words := He.noat_ok (cf 69 _ rfl)
    mk_Watch := He.mkr_ok (cf 70 _ rfl)
    pr_Watch_kinds := propB_ok (ce 0 _ rfl)
    pr_Watch_moves := propB_ok (ce 1 _ rfl)
    pr_Watch_words := propB_ok (ce 2 _ rfl)
    eq_Watch := eqB_ok (ce 3 _ rfl)
    kt := ktB_ok (ce 4 _ rfl)
    et_WatchError := etB_ok (ce 5 _ rfl)
    xf_BadNumber := xfB_ok (ce 6 _ rfl)
    xn_BadNumber_part := He.eqO_ok (ce 7 _ rfl)
    xi_BadMoves := xiB_ok (ce 8 _ rfl)
    xi_BadNumber := xiB_ok (ce 9 _ rfl)
    xi_BadRow := xiB_ok (ce 10 _ rfl)
    xi_BadWords := xiB_ok (ce 11 _ rfl)
    xi_NoWatch := xiB_ok (ce 12 _ rfl)
    tabs := id (ce 13 _ rfl)
    d__law_begun := SaysX_def c 0 rfl
    d__law_caught := SaysX_def c 1 rfl
    d__law_counted := SaysX_def c 2 rfl
    d__law_blend := SaysX_def c 3 rfl
    d__law_draw := SaysX_def c 4 rfl
    d__law_first_rows := SaysX_def c 5 rfl
    d__law_watch := SaysX_def c 6 rfl
    d__law_form := SaysX_def c 7 rfl
    d_first_wrong := SaysX_def c 8 rfl
    d_is_list := SaysX_def c 9 rfl
    d_is_number := SaysX_def c 10 rfl
    d_is_between := SaysX_def c 11 rfl
    d_is_line := SaysX_def c 12 rfl
    d_need_moves := SaysX_def c 13 rfl
    d_is_word := SaysX_def c 14 rfl
    d_need_words := SaysX_def c 15 rfl
    d_Watch_init := SaysX_def c 16 rfl
    d__law_known := SaysX_def c 17 rfl
    d__law_made := SaysX_def c 18 rfl
    d__law_pick := SaysX_def c 19 rfl
    d__law_place := SaysX_def c 20 rfl
    d__law_row := SaysX_def c 21 rfl
    d__law_small := SaysX_def c 22 rfl
    d__law_word := SaysX_def c 23 rfl
    d_found_places := SaysX_def c 24 rfl
    d_numbered := SaysX_def c 25 rfl
    d_marks_of := SaysX_def c 26 rfl
    d_least_tables := SaysX_def c 27 rfl
    d_need_watch := SaysX_def c 28 rfl
    d_least_watch := SaysX_def c 29 rfl
    d_led_from := SaysX_def c 30 rfl
    d_is_short_list := SaysX_def c 31 rfl
    d_need_row_of := SaysX_def c 32 rfl
    d_need_row := SaysX_def c 33 rfl
    d_need_both := SaysX_def c 34 rfl
    d_place_behind := SaysX_def c 35 rfl
    d_places_reached := SaysX_def c 36 rfl
    d_verdict_of := SaysX_def c 37 rfl
    d_word_counts := SaysX_def c 38 rfl
    d_shortest_rows := SaysX_def c 39 rfl
    d_word_rows := SaysX_def c 40 rfl
    d_Watch_eq := SaysX_def c 41 rfl
    d_law := SaysX_def c 42 rfl
    d_ItemError_init := let ⟨fd, a, _, _, d⟩ := PyH.SaysP.xinit c2 hf (List.mem_of_getElem? (i := 0) rfl) rfl; ⟨fd, a, d⟩
    d_PartError_init := let ⟨fd, a, _, _, d⟩ := PyH.SaysP.xinit c2 hf (List.mem_of_getElem? (i := 1) rfl) rfl; ⟨fd, a, d⟩
    d_Watch_moves := PyH.SaysP.funD c2 (List.mem_of_getElem? (i := 2) rfl) rfl
    d_Watch_words := PyH.SaysP.funD c2 (List.mem_of_getElem? (i := 3) rfl) rfl
    d_Watch_kinds := PyH.SaysP.funD c2 (List.mem_of_getElem? (i := 4) rfl) rfl
    sup := hs
    tb := tb }

abbrev Rw : PySem.W.OpenRow := PySem.W.OpenLaw.row PySem.Challenge.rw_watchcode_k92_whole_first_rows_and_place
abbrev hk : PySem.W.Hook := PyH.hookZ 7 fa fn tfd exK "/claim/cut.py" dps
def ob (s : PySem.W.SharedT) : PyH.AlZ := PyH.obsZ 7 fa fn tfd exK "/claim/cut.py" dps (HandSHeadRun.getT s)
theorem ob_eq (s : PySem.W.SharedT) : ob s = hk.obs s.abs := PyH.obsZ_eq 7 fa fn tfd exK "/claim/cut.py" dps (HandSHeadRun.getT_eq s)
def names0 : List PySem.Str := ["__name__", "WatchError", "PartError", "ItemError", "BadNumber", "NoWatch", "BadMoves", "BadWords", "BadRow", "is_number", "is_between", "is_list", "MOST_EVENTS", "MOST_KINDS", "MOST_WORD", "first_wrong", "is_short_list", "need_row", "need_row_of", "is_word", "MOST_PLACES", "is_line", "need_moves", "need_words", "Watch", "need_watch", "need_both", "led_from", "place_behind", "verdict_of"]
def names1 : List PySem.Str := ["found_places", "numbered", "marks_of", "least_tables", "least_watch", "places_reached", "shortest_rows", "word_rows", "word_counts", "_law_begun", "_law_blend", "_law_draw", "_law_pick", "_law_caught", "_law_watch", "_law_made", "_law_place", "_law_word", "_law_known", "_law_row", "_law_form", "_law_first_rows", "_law_counted", "_law_small"]
def names : List PySem.Str := names0 ++ names1
theorem run (w : World) : HandSHeadRun.RunEq Rw (PySem.W.view Rw.prog [59]) hk ob 9000 names w := by
  intro os
  kernel_rfl
/-- what is left: what the law's def computes -/
def LawRuns : Prop := ∀ ns : List Int, ns.length ≤ 63 → (∀ z ∈ ns, Builtin.Int.intBits z ≤ 1048576) → W_law.run [.fls (ns.map .int)] [] (fun v _ => v = .bl true) (fun _ _ => False)
theorem start_rel {K : PySem.W.Frag} {T : NTabs} {H : Hp} (h : NdefX.TabsN T H) : Rel K T ⟨fun _ => 0, 0, H⟩ [] := ⟨rfl, fun i j hi => absurd hi (Nat.not_lt_zero _), fun i c e => by simp at e, h⟩
theorem start_rv {K : PySem.W.Frag} {H : Hp} {a : Addr} {ns : List Int} (h : SqL K H a (ns.map V.int)) : RVs K ⟨fun _ => 0, 0, H⟩ [.fls (ns.map .int)] [.ref a] := by
  refine RVs.cons ?_ RVs.nil
  rw [RV]
  refine ⟨a, ns.map V.int, rfl, ?_, ?_⟩
  · rcases h with h | h
    · exact .inl ⟨fun i hi => absurd hi (Nat.not_lt_zero _), h⟩
    · exact .inr (.inr h)
  · induction ns with
    | nil => exact RVs.nil
    | cons n r ih => exact RVs.cons rv_int (by
        clear h ih
        induction r with
        | nil => exact RVs.nil
        | cons n r ih => exact RVs.cons rv_int ih)
theorem lawAt (hl : LawRuns) {w : World} {mg : Str → Option Value} {f : Addr} {h : Heap} (G : h.Ns mainGlobals mg) (hmg : mg "law" = some (.ref f)) {K : PySem.W.Frag} (X : K.In h) (c : He.SaysX fa fn [] tfd exK w h K) (c2 : PyH.SaysP "/claim/cut.py" dps K) :
    LamX.LawAtS PySem.Challenge.rw_watchcode_k92_whole_first_rows_and_place w K (L2.CX (PySem.Challenge.rw_watchcode_k92_whole_first_rows_and_place).prog w) 12 63 "script" mg f h := by
  have e : f = He.ga K "law" := by
    have q := hmg.symm.trans (He.glo_ok X G (SaysX_fact c 45 rfl))
    cases q
    rfl
  subst e
  obtain ⟨fd, F⟩ := SaysX_def c 42 rfl
  refine ⟨fd, tf.map (fun p => He.cT K p.1), spA K (Tt K) W_law, ?_, ?_, ?_, ?_, ?_, ?_⟩
  · intro p hp
    obtain ⟨q, hq, rfl⟩ := List.mem_map.mp hp
    exact c.empty q.1 (tfd_mem hq)
  · intro p hp
    obtain ⟨q, hq, rfl⟩ := List.mem_map.mp hp
    exact c.out q.1 (tfd_mem hq)
  · intro p hp
    obtain ⟨q, hq, rfl⟩ := List.mem_map.mp hp
    exact PySem.W.codeHd_of_K X (c.hd q.1 (tfd_mem hq))
  · have b := FunD.bindsA (ps := ["script"]) F fun _ _ _ _ _ _ us hl => match us, hl with | [_], _ => rfl
    exact fun s u => b s [u] rfl
  · intro H a ns h1 h2 h3 h4
    refine ⟨⟨fun _ => 0, 0, H⟩, [], [.fls (ns.map .int)], rfl, start_rel (tabs_start fun p hp => h3 _ (List.mem_map.mpr ⟨p, hp, rfl⟩)), start_rv h4, W_law.mono (hl ns h1 h2) (fun v h' e w' u _ _ r => ?_) (fun _ _ z => z.elim)⟩
    subst e
    rw [RV] at r
    exact r
  · intro base Kb Gb tb
    have Gd' := mkG X G c c2 (by kernel_rfl) (by kernel_rfl) (P := (PySem.Challenge.rw_watchcode_k92_whole_first_rows_and_place).prog) (fun p hp => tb _ (List.mem_map.mpr ⟨p, hp, rfl⟩))
    obtain ⟨fd2, F1, F2⟩ := s_law Gd'
    have ef : fd2 = fd := FunD.same F2 F
    subst ef
    exact F1
end K92
open PySem PySem.W PySem.Calls PyProof.Rows
theorem K92.holds_of (hl : K92.LawRuns) : PySem.Challenge.rw_watchcode_k92_whole_first_rows_and_place.Holds := by
  w_on; o_law
  refine HandSHeadRun.head_any (r := OpenLaw.row PySem.Challenge.rw_watchcode_k92_whole_first_rows_and_place) (q := view (OpenLaw.row PySem.Challenge.rw_watchcode_k92_whole_first_rows_and_place).prog [59]) (H := K92.hk) (ob := K92.ob) (M := 9000) (loose := K92.names) (d := HandSHeadRun.topDef (OpenLaw.row PySem.Challenge.rw_watchcode_k92_whole_first_rows_and_place).prog 59) (kwd := []) K92.ob_eq
    (by kernel_rfl) (fun s => by kernel_rfl) K92.run (by kernel_rfl) (by kernel_rfl) (by kernel_rfl) (by rfl) (by first | assumption | decide +kernel) (by decide +kernel) ⟨rfl, rfl, rfl, rfl, rfl, by decide +kernel⟩ ?hw ?hc
  case hw => w_witness2
  case hc =>
    refine LamX.walk_ofTsE (l := PySem.Challenge.rw_watchcode_k92_whole_first_rows_and_place) (n := 63) (k := 12) (x := "script") (CX := fun w => L2.CX (PySem.Challenge.rw_watchcode_k92_whole_first_rows_and_place).prog w) rfl (by decide) (by kernel_rfl) ⟨rfl, by decide, by decide⟩ ?F (fun w H s e s' z => ?C)
    case C =>
      obtain ⟨_, _, _, _, _, _, _, _, _, _, _, _, z⟩ := z
      exact z
    intro w mg f h Y G hmg0
    obtain ⟨K, KX, c, c2⟩ := Y
    have hmg : mg ("law" : PySem.Str) = some (.ref f) := by
      have e : (HandSHeadRun.topDef (OpenLaw.row PySem.Challenge.rw_watchcode_k92_whole_first_rows_and_place).prog 59).name = ("law" : PySem.Str) := by kernel_rfl
      rw [← e]
      exact hmg0
    exact ⟨K, KX, K92.lawAt hl G hmg KX c c2⟩
end
open PySem PySem.W PyProof.Rows
theorem PySem.Challenge.cw_watchcode_k92_whole_first_rows_and_place_holds : PySem.Challenge.rw_watchcode_k92_whole_first_rows_and_place.Holds := by
  exact K92.holds_of K92.law_runs
