import PyProof.Rows.All
import Wide.All
import OpenK.AllK
import Wide.FinOn
import HandS.ForMost
import HandS.ForExc
import HandS.WideBits
import HandS.Flow
import HandS.IsInst
import HandS.CallSlots
import HandS.RaiseMore
import HandS.Deep
import HandS.TupAny
import HandS.NoneIn
import HandS.Conv
import KE.SortData
import KE.DataCmp
import KE.GoesEnumKw
import KE.GoesMore
import PyProof.Rows.CallKwBuiltin
import HandS.Style
import PySem.Challenge.RW_hourrings_k08_whole_divisors_and_multipl
set_option Elab.async false
set_option linter.all false
set_option maxRecDepth 100000
/-! Mini, part A: plain data over the abstract heap, mutable cells beside it, and how a heap may grow. -/
namespace Mini
open PySem PySem.Spec PyProof.Rows L2

/-- the mutable lists, by number -/
abbrev ST := List (List PyData)
/-- a value: plain data, or a mutable list by its number -/
inductive EV where
  | d (x : PyData)
  | cell (n : Nat)

/-- a world: where the cells stand, what they hold, the abstract heap, and addresses that are somebody else's -/
structure Wd where
  ι : Nat → Addr
  st : ST
  H : Hp
  F : Addr → Prop

def Wd.live (w : Wd) (b : Addr) : Prop := ∃ n, n < w.st.length ∧ w.ι n = b
def Wd.own (w : Wd) (b : Addr) : Prop := w.live b ∨ w.F b

/-- a list that stands written in the module -/
def KL (K : PySem.W.Frag) (a : Addr) (xs : List V) : Prop :=
  ∃ (its : List Value) (n : Nat), K.lookup a = some { cls := .type "list", data := .seq its.toArray n } ∧ its.length ≤ sizeLine ∧ Vals xs its
/-- a list that is read -/
def LR (K : PySem.W.Frag) (H : Hp) (a : Addr) (xs : List V) : Prop := Rd H a (.lst xs) ∨ KL K a xs
theorem LR.sq {K : PySem.W.Frag} {H : Hp} {a : Addr} {xs : List V} (h : LR K H a xs) : SqL K H a xs := by
  rcases h with h | ⟨its, n, h, hz, r⟩
  · exact .inl h
  · exact .inr ⟨_, its.toArray, n, h, rfl, rfl, rfl, by simpa using hz, by simpa using r⟩
/-- a list that nobody changes -/
def SL (K : PySem.W.Frag) (w : Wd) (a : Addr) (xs : List V) : Prop := (Rd w.H a (.lst xs) ∧ ¬ w.own a) ∨ KL K a xs
theorem SL.lr {K : PySem.W.Frag} {w : Wd} {a : Addr} {xs : List V} (h : SL K w a xs) : LR K w.H a xs := by
  rcases h with ⟨h, _⟩ | h
  · exact .inl h
  · exact .inr h
theorem SL.sq {K : PySem.W.Frag} {w : Wd} {a : Addr} {xs : List V} (h : SL K w a xs) : SqL K w.H a xs := h.lr.sq

/-- a tuple that stands written in the module -/
def KT (K : PySem.W.Frag) (a : Addr) (xs : List V) : Prop :=
  ∃ (o : Obj) (its : Array Value) (n : Nat), K.lookup a = some o ∧ o.cls = .type "tuple" ∧ o.data = .seq its n ∧ its.size ≤ sizeLine ∧ Vals xs its.toList
def TL_ (K : PySem.W.Frag) (w : Wd) (a : Addr) (xs : List V) : Prop := (Rd w.H a (.tup xs) ∧ ¬ w.own a) ∨ KT K a xs
theorem TL_.sq {K : PySem.W.Frag} {w : Wd} {a : Addr} {xs : List V} (h : TL_ K w a xs) : SqT K w.H a xs := by
  rcases h with ⟨h, _⟩ | h
  · exact .inl h
  · exact .inr h

/-- a key as data -/
def kD : Key → PyData
  | .inl i => .int i
  | .inr x => .str x
mutual
inductive RD (K : PySem.W.Frag) (w : Wd) : V → PyData → Prop
  | non : RD K w .non .none
  | bl (b : Bool) : RD K w (.bl b) (.bool b)
  | int (i : Int) : RD K w (.int i) (.int i)
  | str (x : Str) : RD K w (.str x) (.str x)
  | lst {a : Addr} {xs : List V} {ds : List PyData} : SL K w a xs → RDs K w xs ds → RD K w (.ref a) (.list ds)
  | tup {a : Addr} {xs : List V} {ds : List PyData} : TL_ K w a xs → RDs K w xs ds → RD K w (.ref a) (.tuple ds)
  | dct {a : Addr} {kvs : List (Key × V)} {ps : List (PyData × PyData)} : w.H a = some (.dK kvs) → ¬ w.own a → RDp K w kvs ps → RD K w (.ref a) (.dict ps)
inductive RDs (K : PySem.W.Frag) (w : Wd) : List V → List PyData → Prop
  | nil : RDs K w [] []
  | cons {v : V} {vs : List V} {d : PyData} {ds : List PyData} : RD K w v d → RDs K w vs ds → RDs K w (v :: vs) (d :: ds)
inductive RDp (K : PySem.W.Frag) (w : Wd) : List (Key × V) → List (PyData × PyData) → Prop
  | nil : RDp K w [] []
  | cons {k : Key} {v : V} {kvs : List (Key × V)} {d : PyData} {ps : List (PyData × PyData)} : RD K w v d → RDp K w kvs ps → RDp K w ((k, v) :: kvs) ((kD k, d) :: ps)
end

/-- the cells are as told -/
structure COk (K : PySem.W.Frag) (w : Wd) : Prop where
  cell : ∀ n xs, w.st[n]? = some xs → ∃ vs, w.H (w.ι n) = some (.lst vs) ∧ RDs K w vs xs
  inj : ∀ n m, n < w.st.length → m < w.st.length → w.ι n = w.ι m → n = m
  forb : ∀ b, w.F b → (∃ o, w.H b = some o) ∧ ¬ w.live b

/-- w may have become w' -/
structure Grow (w w' : Wd) : Prop where
  len : w.st.length ≤ w'.st.length
  io : ∀ n, n < w.st.length → w'.ι n = w.ι n
  keep : ∀ b o, w.H b = some o → ¬ w.live b → w'.H b = some o ∧ ¬ w'.live b
  there : ∀ b o, w.H b = some o → ∃ o', w'.H b = some o'
  ff : w'.F = w.F

/-- what plain data asks to stay -/
structure Later (w w' : Wd) : Prop where
  len : w.st.length ≤ w'.st.length
  io : ∀ n, n < w.st.length → w'.ι n = w.ι n
  keep : ∀ b o, w.H b = some o → ¬ w.own b → w'.H b = some o ∧ ¬ w'.own b
theorem Grow.later {w w' : Wd} (g : Grow w w') : Later w w' := ⟨g.len, g.io, fun b o e n => by
  obtain ⟨e1, n1⟩ := g.keep b o e fun z => n (.inl z)
  exact ⟨e1, fun z => z.elim n1 fun f => n (.inr (by rw [g.ff] at f; exact f))⟩⟩
theorem Later.trans {a b c : Wd} (g : Later a b) (h : Later b c) : Later a c :=
  ⟨Nat.le_trans g.len h.len, fun n hn => (h.io n (Nat.lt_of_lt_of_le hn g.len)).trans (g.io n hn), fun x o e n => let ⟨e1, n1⟩ := g.keep x o e n; h.keep x o e1 n1⟩
theorem Grow.refl (w : Wd) : Grow w w := ⟨Nat.le_refl _, fun _ _ => rfl, fun _ _ h n => ⟨h, n⟩, fun _ o h => ⟨o, h⟩, rfl⟩
theorem Grow.trans {a b c : Wd} (g : Grow a b) (h : Grow b c) : Grow a c where
  len := Nat.le_trans g.len h.len
  io := fun n hn => (h.io n (Nat.lt_of_lt_of_le hn g.len)).trans (g.io n hn)
  keep := fun x o e n => let ⟨e1, n1⟩ := g.keep x o e n; h.keep x o e1 n1
  there := fun x o e => let ⟨o1, e1⟩ := g.there x o e; h.there x o1 e1
  ff := h.ff.trans g.ff

theorem COk.live_lst {K : PySem.W.Frag} {w : Wd} (c : COk K w) {b : Addr} (h : w.live b) : ∃ vs, w.H b = some (.lst vs) := by
  obtain ⟨n, hn, rfl⟩ := h
  obtain ⟨vs, e, _⟩ := c.cell n _ (List.getElem?_eq_getElem hn)
  exact ⟨vs, e⟩
theorem COk.fresh {K : PySem.W.Frag} {w : Wd} (c : COk K w) {p : Addr} (h : w.H p = none) : ¬ w.own p := by
  rintro (l | f)
  · obtain ⟨vs, e⟩ := c.live_lst l
    rw [h] at e; cases e
  · obtain ⟨⟨o, e⟩, _⟩ := c.forb p f
    rw [h] at e; cases e
theorem COk.frz_not {K : PySem.W.Frag} {w : Wd} (c : COk K w) {p : Addr} {o : HO} (h : w.H p = some o) (hl : ∀ vs, o ≠ .lst vs) : ¬ w.live p := fun l => by
  obtain ⟨vs, e⟩ := c.live_lst l
  rw [h] at e
  exact hl vs (Option.some.inj e)

section
variable {K : PySem.W.Frag} {w w' : Wd}
theorem SL.later (g : Later w w') {a : Addr} {xs : List V} (h : SL K w a xs) : SL K w' a xs := by
  rcases h with ⟨h, n⟩ | h
  · left
    rcases h with h | ⟨o, h⟩
    · obtain ⟨e, m⟩ := g.keep a _ h n
      exact ⟨.inl e, m⟩
    · obtain ⟨e, m⟩ := g.keep a _ h n
      exact ⟨.inr ⟨o, e⟩, m⟩
  · exact .inr h
theorem TL_.later (g : Later w w') {a : Addr} {xs : List V} (h : TL_ K w a xs) : TL_ K w' a xs := by
  rcases h with ⟨h, n⟩ | h
  · left
    rcases h with h | ⟨o, h⟩
    · obtain ⟨e, m⟩ := g.keep a _ h n
      exact ⟨.inl e, m⟩
    · obtain ⟨e, m⟩ := g.keep a _ h n
      exact ⟨.inr ⟨o, e⟩, m⟩
  · exact .inr h
mutual
theorem RD.later (g : Later w w') : ∀ (d : PyData) (v : V), RD K w v d → RD K w' v d
  | .none, _, .non => .non
  | .bool b, _, .bl _ => .bl b
  | .int i, _, .int _ => .int i
  | .str x, _, .str _ => .str x
  | .list ds, _, .lst h r => .lst (h.later g) (RDs.later g ds _ r)
  | .tuple ds, _, .tup h r => .tup (h.later g) (RDs.later g ds _ r)
  | .dict ps, _, .dct h n r => .dct (g.keep _ _ h n).1 (g.keep _ _ h n).2 (RDp.later g ps _ r)
theorem RDs.later (g : Later w w') : ∀ (ds : List PyData) (vs : List V), RDs K w vs ds → RDs K w' vs ds
  | [], _, .nil => .nil
  | d :: ds, _, .cons h t => .cons (RD.later g d _ h) (RDs.later g ds _ t)
theorem RDp.later (g : Later w w') : ∀ (ps : List (PyData × PyData)) (kvs : List (Key × V)), RDp K w kvs ps → RDp K w' kvs ps
  | [], _, .nil => .nil
  | (_, d) :: ps, _, .cons h t => .cons (RD.later g d _ h) (RDp.later g ps _ t)
end
theorem RD.grow (c : COk K w) (g : Grow w w') (d : PyData) (v : V) (h : RD K w v d) : RD K w' v d := RD.later g.later d v h
theorem RDs.grow (c : COk K w) (g : Grow w w') (ds : List PyData) (vs : List V) (h : RDs K w vs ds) : RDs K w' vs ds := RDs.later g.later ds vs h

theorem RDs.length : ∀ {ds : List PyData} {vs : List V}, RDs K w vs ds → vs.length = ds.length
  | _, _, .nil => rfl
  | _, _, .cons _ t => by rw [List.length_cons, List.length_cons, RDs.length t]
theorem RDs.get : ∀ {ds : List PyData} {vs : List V} {i : Nat} {d : PyData}, RDs K w vs ds → ds[i]? = some d → ∃ v, vs[i]? = some v ∧ RD K w v d
  | _, _, _, _, .nil, e => by simp at e
  | _, _, 0, _, .cons r _, e => by simp at e; subst e; exact ⟨_, rfl, r⟩
  | _, _, i + 1, d, .cons _ t, e => by
    obtain ⟨v, h1, h2⟩ := RDs.get (i := i) (d := d) t (by simpa using e)
    exact ⟨v, by simpa using h1, h2⟩
theorem RDs.got : ∀ {ds : List PyData} {vs : List V} {i : Nat} {v : V}, RDs K w vs ds → vs[i]? = some v → ∃ d, ds[i]? = some d ∧ RD K w v d
  | _, _, _, _, .nil, e => by simp at e
  | _, _, 0, _, .cons r _, e => by simp at e; subst e; exact ⟨_, rfl, r⟩
  | _, _, i + 1, d, .cons _ t, e => by
    obtain ⟨v, h1, h2⟩ := RDs.got (i := i) (v := d) t (by simpa using e)
    exact ⟨v, by simpa using h1, h2⟩
theorem RDs.append : ∀ {ds es : List PyData} {vs us : List V}, RDs K w vs ds → RDs K w us es → RDs K w (vs ++ us) (ds ++ es)
  | _, _, _, _, .nil, s => s
  | _, _, _, _, .cons r t, s => .cons r (RDs.append t s)
theorem RDs.take : ∀ (n : Nat) {ds : List PyData} {vs : List V}, RDs K w vs ds → RDs K w (vs.take n) (ds.take n)
  | 0, _, _, _ => .nil
  | _ + 1, _, _, .nil => .nil
  | n + 1, _, _, .cons r t => .cons r (RDs.take n t)
theorem RDs.drop : ∀ (n : Nat) {ds : List PyData} {vs : List V}, RDs K w vs ds → RDs K w (vs.drop n) (ds.drop n)
  | 0, _, _, r => r
  | _ + 1, _, _, .nil => .nil
  | n + 1, _, _, .cons _ t => RDs.drop n t
theorem RDs.set {v : V} {d : PyData} (r : RD K w v d) : ∀ (i : Nat) {ds : List PyData} {vs : List V}, RDs K w vs ds → RDs K w (vs.set i v) (ds.set i d)
  | _, _, _, .nil => .nil
  | 0, _, _, .cons _ t => .cons r t
  | i + 1, _, _, .cons q t => .cons q (RDs.set r i t)

/-- a new object that is no cell -/
theorem Grow.alloc (c : COk K w) {p : Addr} {o : HO} (h : w.H p = none) : Grow w { w with H := upd w.H p o } where
  len := Nat.le_refl _
  io := fun _ _ => rfl
  keep := fun b u e n => ⟨by
    show upd w.H p o b = _
    rw [upd_ne (ne_of_none e h)]; exact e, n⟩
  there := fun b u e => ⟨u, by
    show upd w.H p o b = _
    rw [upd_ne (ne_of_none e h)]; exact e⟩
  ff := rfl
theorem COk.alloc (c : COk K w) {p : Addr} {o : HO} (h : w.H p = none) : COk K { w with H := upd w.H p o } where
  cell := fun n xs e => by
    obtain ⟨vs, e1, r⟩ := c.cell n xs e
    exact ⟨vs, (upd_ne (ne_of_none e1 h)).trans e1, RDs.grow c (Grow.alloc c h) xs vs r⟩
  inj := c.inj
  forb := fun b f => by
    obtain ⟨⟨u, e⟩, n⟩ := c.forb b f
    exact ⟨⟨u, (upd_ne (ne_of_none e h)).trans e⟩, n⟩
theorem SL.alloc (c : COk K w) {p : Addr} {xs : List V} (h : w.H p = none) : SL K { w with H := upd w.H p (.lst xs) } p xs :=
  .inl ⟨.inl upd_same, fun z => c.fresh h (z.elim .inl .inr)⟩

theorem TL_.alloc (c : COk K w) {p : Addr} {xs : List V} (h : w.H p = none) : TL_ K { w with H := upd w.H p (.tup xs) } p xs :=
  .inl ⟨.inl upd_same, fun z => c.fresh h (z.elim .inl .inr)⟩

/-- a new cell -/
def Wd.more (w : Wd) (p : Addr) (xs : List PyData) (vs : List V) : Wd :=
  { w with ι := fun n => if n = w.st.length then p else w.ι n, st := w.st ++ [xs], H := upd w.H p (.lst vs) }
theorem Wd.more_live {p : Addr} {xs : List PyData} {vs : List V} {b : Addr} : (w.more p xs vs).live b ↔ w.live b ∨ b = p := by
  constructor
  · rintro ⟨n, hn, e⟩
    have hn' : n < w.st.length + 1 := by simpa [Wd.more] using hn
    by_cases q : n = w.st.length
    · right; simpa [Wd.more, q] using e.symm
    · left; exact ⟨n, by omega, by simpa [Wd.more, q] using e⟩
  · rintro (⟨n, hn, e⟩ | rfl)
    · exact ⟨n, by simp [Wd.more]; omega, by simp [Wd.more, Nat.ne_of_lt hn, e]⟩
    · exact ⟨w.st.length, by simp [Wd.more], by simp [Wd.more]⟩
theorem Grow.more (c : COk K w) {p : Addr} {xs : List PyData} {vs : List V} (h : w.H p = none) : Grow w (w.more p xs vs) where
  len := by simp [Wd.more]
  io := fun n hn => by simp [Wd.more, Nat.ne_of_lt hn]
  keep := fun b u e n => ⟨by
    show upd w.H p _ b = _
    rw [upd_ne (ne_of_none e h)]; exact e, fun z => (Wd.more_live.mp z).elim n (ne_of_none e h)⟩
  there := fun b u e => ⟨u, by
    show upd w.H p _ b = _
    rw [upd_ne (ne_of_none e h)]; exact e⟩
  ff := rfl
theorem COk.more (c : COk K w) {p : Addr} {xs : List PyData} {vs : List V} (h : w.H p = none) (r : RDs K w vs xs) : COk K (w.more p xs vs) where
  cell := fun n ys e => by
    have e' : (w.st ++ [xs])[n]? = some ys := e
    by_cases q : n = w.st.length
    · subst q
      simp at e'
      subst e'
      exact ⟨vs, by simp [Wd.more, upd_same], RDs.grow c (Grow.more c h) xs vs r⟩
    · have hn : n < w.st.length := by
        have := (List.getElem?_eq_some_iff.mp e').1
        simp at this; omega
      rw [List.getElem?_append_left hn] at e'
      obtain ⟨us, e1, r1⟩ := c.cell n ys e'
      refine ⟨us, ?_, RDs.grow c (Grow.more c h) ys us r1⟩
      simp only [Wd.more, if_neg q]
      rw [upd_ne (ne_of_none e1 h)]; exact e1
  inj := fun n m hn hm e => by
    have hn' : n < w.st.length + 1 := by simpa [Wd.more] using hn
    have hm' : m < w.st.length + 1 := by simpa [Wd.more] using hm
    have key : ∀ i, i < w.st.length → w.ι i ≠ p := fun i hi z => c.fresh h (.inl ⟨i, hi, z⟩)
    by_cases q : n = w.st.length <;> by_cases q' : m = w.st.length
    · rw [q, q']
    · simp [Wd.more, q, q'] at e
      exact absurd e.symm (key m (by omega))
    · simp [Wd.more, q, q'] at e
      exact absurd e (key n (by omega))
    · simp [Wd.more, q, q'] at e
      exact c.inj n m (by omega) (by omega) e
  forb := fun b f => by
    obtain ⟨⟨u, e⟩, n⟩ := c.forb b f
    exact ⟨⟨u, (upd_ne (ne_of_none e h)).trans e⟩, fun z => (Wd.more_live.mp z).elim n (ne_of_none e h)⟩

/-- a cell is changed -/
def Wd.put (w : Wd) (n : Nat) (xs : List PyData) (vs : List V) : Wd := { w with st := w.st.set n xs, H := upd w.H (w.ι n) (.lst vs) }
theorem Wd.put_live {n : Nat} {xs : List PyData} {vs : List V} {b : Addr} : (w.put n xs vs).live b ↔ w.live b := by
  simp [Wd.live, Wd.put]
theorem Grow.put (c : COk K w) {n : Nat} {xs : List PyData} {vs : List V} (hn : n < w.st.length) : Grow w (w.put n xs vs) where
  len := by simp [Wd.put]
  io := fun _ _ => rfl
  keep := fun b u e q => by
    have hb : b ≠ w.ι n := fun z => q ⟨n, hn, z.symm⟩
    exact ⟨(upd_ne hb).trans e, fun z => q (Wd.put_live.mp z)⟩
  there := fun b u e => by
    by_cases hb : b = w.ι n
    · exact ⟨_, by rw [hb]; exact upd_same⟩
    · exact ⟨u, (upd_ne hb).trans e⟩
  ff := rfl
theorem COk.put (c : COk K w) {n : Nat} {xs : List PyData} {vs : List V} (hn : n < w.st.length) (r : RDs K w vs xs) : COk K (w.put n xs vs) where
  cell := fun m ys e => by
    have e' : (w.st.set n xs)[m]? = some ys := e
    by_cases q : m = n
    · subst q
      rw [List.getElem?_set_self hn] at e'
      cases e'
      exact ⟨vs, upd_same, RDs.grow c (Grow.put c hn) xs vs r⟩
    · rw [List.getElem?_set_ne (Ne.symm q)] at e'
      obtain ⟨us, e1, r1⟩ := c.cell m ys e'
      have hm := (List.getElem?_eq_some_iff.mp e').1
      refine ⟨us, ?_, RDs.grow c (Grow.put c hn) ys us r1⟩
      show upd w.H (w.ι n) _ (w.ι m) = _
      rw [upd_ne (fun z => q (c.inj m n hm hn z))]; exact e1
  inj := fun a b ha hb e => c.inj a b (by simpa [Wd.put] using ha) (by simpa [Wd.put] using hb) e
  forb := fun b f => by
    obtain ⟨⟨u, e⟩, l⟩ := c.forb b f
    have hb : b ≠ w.ι n := fun z => l ⟨n, hn, z.symm⟩
    exact ⟨⟨u, (upd_ne hb).trans e⟩, fun z => l (Wd.put_live.mp z)⟩
end

/-! ### values, slots -/
def RV (K : PySem.W.Frag) (w : Wd) (v : V) : EV → Prop
  | .d x => RD K w v x
  | .cell n => n < w.st.length ∧ v = .ref (w.ι n)
inductive RVs (K : PySem.W.Frag) (w : Wd) : List V → List EV → Prop
  | nil : RVs K w [] []
  | cons {v : V} {vs : List V} {d : EV} {ds : List EV} : RV K w v d → RVs K w vs ds → RVs K w (v :: vs) (d :: ds)
abbrev Ev : Type := List (Option EV)
structure EOk (K : PySem.W.Frag) (w : Wd) (σ : L2.St) (env : List (Option EV)) : Prop where
  len : σ.length = env.length
  at_ : ∀ (i : Nat) (v : EV), env[i]? = some (some v) → ∃ r : V, σ[i]? = some (some r) ∧ RV K w r v
section
variable {K : PySem.W.Frag} {w w' : Wd}
theorem RV.later (g : Later w w') {v : V} {x : EV} (h : RV K w v x) : RV K w' v x := by
  cases x with
  | d x => exact RD.later g x v h
  | cell n => exact ⟨Nat.lt_of_lt_of_le h.1 g.len, by rw [g.io n h.1]; exact h.2⟩
theorem RV.grow (c : COk K w) (g : Grow w w') {v : V} {x : EV} (h : RV K w v x) : RV K w' v x := by
  cases x with
  | d x => exact RD.grow c g x v h
  | cell n => exact ⟨Nat.lt_of_lt_of_le h.1 g.len, by rw [g.io n h.1]; exact h.2⟩
theorem RVs.grow (c : COk K w) (g : Grow w w') : ∀ {vs : List V} {xs : List EV}, RVs K w vs xs → RVs K w' vs xs
  | _, _, .nil => .nil
  | _, _, .cons h t => .cons (h.grow c g) (RVs.grow c g t)
theorem RVs.length : ∀ {vs : List V} {xs : List EV}, RVs K w vs xs → vs.length = xs.length
  | _, _, .nil => rfl
  | _, _, .cons _ t => by rw [List.length_cons, List.length_cons, RVs.length t]
theorem EOk.grow (c : COk K w) (g : Grow w w') {σ : L2.St} {env : Ev} (h : EOk K w σ env) : EOk K w' σ env :=
  ⟨h.len, fun i v e => let ⟨r, e1, q⟩ := h.at_ i v e; ⟨r, e1, q.grow c g⟩⟩
theorem EOk.later (g : Later w w') {σ : L2.St} {env : Ev} (h : EOk K w σ env) : EOk K w' σ env :=
  ⟨h.len, fun i v e => let ⟨r, e1, q⟩ := h.at_ i v e; ⟨r, e1, q.later g⟩⟩
theorem EOk.set {σ : L2.St} {env : Ev} (h : EOk K w σ env) (i : Nat) {r : V} {v : EV} (q : RV K w r v) : EOk K w (σ.set i (some r)) (env.set i (some v)) := by
  refine ⟨by rw [List.length_set, List.length_set]; exact h.len, fun j u e => ?_⟩
  by_cases hj : i = j
  · subst hj
    have hi : i < env.length := by
      have := (List.getElem?_eq_some_iff.mp e).1
      simpa using this
    rw [List.getElem?_set_self hi] at e
    cases e
    exact ⟨r, by rw [List.getElem?_set_self (by rw [h.len]; exact hi)], q⟩
  · rw [List.getElem?_set_ne hj] at e ⊢
    exact h.at_ j u e
/-- slots forgotten -/
def wipeE (env : Ev) : List Nat → Ev
  | [] => env
  | v :: vs => (wipeE env vs).set v none
theorem EOk.wipe {σ : L2.St} {env : Ev} (h : EOk K w σ env) : ∀ vs : List Nat, EOk K w (wipe σ vs) (wipeE env vs)
  | [] => h
  | v :: vs => by
    have ih := EOk.wipe h vs
    refine ⟨by simp only [L2.wipe, wipeE, List.length_set]; exact ih.len, fun j u e => ?_⟩
    simp only [wipeE] at e
    simp only [L2.wipe]
    by_cases hj : v = j
    · subst hj
      have hi : v < (wipeE env vs).length := by
        have := (List.getElem?_eq_some_iff.mp e).1
        simpa using this
      rw [List.getElem?_set_self hi] at e
      cases e
    · rw [List.getElem?_set_ne hj] at e ⊢
      exact ih.at_ j u e
end
end Mini

/-! zip(a, b, strict=True) of two lists of one length -/
namespace ZS
open PySem PySem.Spec PyProof.Rows L2
abbrev kwS : List (Str × Value) := [(Str.ofString "strict", .bool true)]
abbrev ZObj (f : Value) (TI TO : Addr) : Obj := { cls := .type "zip", dict := none, data := .fields #[f, .bool false, .bool true, .ref TI, .ref TO], slots := #[] }
abbrev ZAt (h : Heap) (z TI TO : Addr) (f : Value) : Prop := h.get? z = some (ZObj f TI TO)
theorem k1 (a b : Value) : checkTypeCall "zip" ⟨[a, b], kwS⟩ = pure () := by kernel_rfl
theorem k2 (a b : Value) : checkBuiltinCall "zip.__new__" ⟨[.type "zip", a, b], kwS⟩ = pure () := by kernel_rfl
theorem k3 (o a b : Value) : argsOk "object.__init__" ⟨[o, a, b], kwS⟩ := by unfold argsOk; kernel_rfl
set_option maxHeartbeats 2000000 in
theorem newZ {v1 v2 : Value} {o1 o2 : Obj} {P1 P2 : Heap → Prop} (B1 : Begins v1 o1 P1) (B2 : Begins v2 o2 P2) :
    Meets (Builtin.«zip.__new__» ⟨[.type "zip", v1, v2], kwS⟩) fun _ R s => (P1 s.heap ∧ P2 s.heap) ∧ R (.ok (.ret (.ref (gzO2 s.heap o1 o2).objs.size))) { s with heap := (gzO2 s.heap o1 o2).push (ZObj .none ((s.heap.push o1).push o2).objs.size (gzT2 s.heap o1 o2).objs.size) } := by
  refine .of_wp fun prog w A R s hs => ?_
  obtain ⟨hp, g, d, tk, os⟩ := s
  obtain ⟨⟨a1, a2⟩, hq⟩ := hs
  have isz := sub_zip
  have b1 : ∀ {A' : Around} {E Q : Value → Shared → Prop}, Q (.ref hp.objs.size) ⟨hp.push o1, g, d, tk, os⟩ → wpAny (model prog w) A' (pyIter v1) Q E ⟨hp, g, d, tk, os⟩ := fun q => B1.iter prog w _ _ ⟨hp, g, d, tk, os⟩ _ a1 q
  have b2 : ∀ {A' : Around} {E Q : Value → Shared → Prop}, Q (.ref (hp.push o1).objs.size) ⟨(hp.push o1).push o2, g, d, tk, os⟩ → wpAny (model prog w) A' (pyIter v2) Q E ⟨hp.push o1, g, d, tk, os⟩ := fun q =>
    B2.iter prog w _ _ ⟨hp.push o1, g, d, tk, os⟩ _ (B2.keeps _ _ a2 fun _ _ e => Heap.get?_push_of_some _ e) q
  have s1 : (Str.ofString "strict" == ("strict" : Str)) = true := by decide +kernel
  have s2 : (Str.ofString "strict" != ("strict" : Str)) = false := by decide +kernel
  wp_walk using b1, b2
  exact ⟨_, rfl, hq⟩
section
variable {prog : Program} {w : World} {A : Around} {E : Value → Shared → Prop} {s : Shared}
theorem callZ {l1 l2 : Addr} {xs ys : Array Value} {Q : Value → Shared → Prop} (p1 : s.heap.IsList l1 xs) (p2 : s.heap.IsList l2 ys)
    (q : ∀ h', ZAt h' (s.heap.objs.size + 4) (s.heap.objs.size + 2) (s.heap.objs.size + 3) .none → IsPair h' (s.heap.objs.size + 2) (.ref s.heap.objs.size) (.ref (s.heap.objs.size + 1)) → IsPair h' (s.heap.objs.size + 3) .none .none →
      h'.IsListIter s.heap.objs.size l1 0 → h'.IsListIter (s.heap.objs.size + 1) l2 0 → (∀ c o, s.heap.get? c = some o → h'.get? c = some o) → Q (.ref (s.heap.objs.size + 4)) { s with heap := h' }) :
    wpAny (model prog w) A (call (.type "zip") [.ref l1, .ref l2] kwS) Q E s := by
  refine callType_newKw F.called_zip (by decide) (k1 _ _) (k2 _ _) (fun o => k3 o _ _) F.entry_zip_new (newZ (begins_list l1 xs) (begins_list l2 ys)) ⟨⟨p1, p2⟩, ?_⟩
  generalize eo1 : ({ cls := .type "list_iterator", data := .fields #[.ref l1, .int 0 0] } : Obj) = o1
  generalize eo2 : ({ cls := .type "list_iterator", data := .fields #[.ref l2, .int 0 0] } : Obj) = o2
  have f1 : o1.isFreed = false := by rw [← eo1]; rfl
  have f2 : o2.isFreed = false := by rw [← eo2]; rfl
  have n1 : (s.heap.push o1).objs.size = s.heap.objs.size + 1 := by rw [Heap.size_push]
  have n2 : ((s.heap.push o1).push o2).objs.size = s.heap.objs.size + 2 := by rw [Heap.size_push, n1]
  have n3 : (gzT2 s.heap o1 o2).objs.size = s.heap.objs.size + 3 := by rw [Heap.size_push, n2]
  have n4 : (gzO2 s.heap o1 o2).objs.size = s.heap.objs.size + 4 := by rw [Heap.size_push, n3]
  have up : ∀ {h : Heap} {o u : Obj} {c : Addr}, h.get? c = some u → (h.push o).get? c = some u := fun e => Heap.get?_push_of_some _ e
  generalize eh : (gzO2 s.heap o1 o2).push (ZObj .none ((s.heap.push o1).push o2).objs.size (gzT2 s.heap o1 o2).objs.size) = h9
  have g5 : h9.get? (gzO2 s.heap o1 o2).objs.size = some (ZObj .none ((s.heap.push o1).push o2).objs.size (gzT2 s.heap o1 o2).objs.size) := by rw [← eh]; exact Heap.get?_push_size _ rfl
  have g4 : h9.get? (gzT2 s.heap o1 o2).objs.size = some { cls := .type "tuple", data := .seq #[.none, .none] } := by rw [← eh]; exact up (Heap.get?_push_size _ rfl)
  have g3 : h9.get? ((s.heap.push o1).push o2).objs.size = some { cls := .type "tuple", data := .seq #[.ref s.heap.objs.size, .ref (s.heap.push o1).objs.size] } := by rw [← eh]; exact up (up (Heap.get?_push_size _ rfl))
  have g2 : h9.get? (s.heap.push o1).objs.size = some o2 := by rw [← eh]; exact up (up (up (Heap.get?_push_size _ f2)))
  have g1 : h9.get? s.heap.objs.size = some o1 := by rw [← eh]; exact up (up (up (up (Heap.get?_push_size _ f1))))
  have g0 : ∀ c o, s.heap.get? c = some o → h9.get? c = some o := fun c o e => by rw [← eh]; exact up (up (up (up (up e))))
  rw [n4, n2, n3] at g5
  rw [n3] at g4
  rw [n2, n1] at g3
  rw [n1] at g2
  show _ ∧ _
  rw [n4]
  exact ⟨⟨_, g5, rfl⟩, q h9 g5 g3 g4 ⟨o1, g1, by rw [← eo1], by rw [← eo1]; rfl⟩ ⟨o2, g2, by rw [← eo2], by rw [← eo2]; rfl⟩ g0⟩
end
end ZS

namespace ZS
open PySem PySem.Spec PyProof.Rows L2
section
variable {prog : Program} {w : World} {A : Around} {E : Value → Shared → Prop} {s : Shared}
theorem got {it l : Addr} {k : Nat} {xs : Array Value} {x : Value} {Q : Option Value → Shared → Prop} (hi : s.heap.IsListIter it l k) (hl : s.heap.IsList l xs) (hx : xs[k]? = some x)
    (q : ∀ h', h'.IsListIter it l (k + 1) → Heap.SameBut it s.heap h' → Q (some x) { s with heap := h' }) : wpAny (model prog w) A (Builtin.SmallTypes.nextOrEnd (.ref it)) Q E s := by
  unfold Builtin.SmallTypes.nextOrEnd
  exact wpAny_bind (wpAny_attempt (wpAny_nextOf_list_item hi hl hx fun h' a b => wpAny_pure (q h' a b)))
theorem gone {it l : Addr} {k : Nat} {xs : Array Value} {Q : Option Value → Shared → Prop} (hh : A.handled = none) (hi : s.heap.IsListIter it l k) (hl : s.heap.IsList l xs) (hx : xs[k]? = none)
    (q : ∀ h', Heap.ExtBut it s.heap h' → Q none { s with heap := h' }) : wpAny (model prog w) A (Builtin.SmallTypes.nextOrEnd (.ref it)) Q E s := by
  unfold Builtin.SmallTypes.nextOrEnd
  refine wpAny_bind (wpAny_attempt (wpAny_nextOf_list_end hh hi hl hx fun h' e a ⟨o, ho, hc⟩ => ?_))
  exact wpAny_bind (wpAny_isInstance (T := "StopIteration") (b := true) ⟨o, ho, hc⟩ isSubtype_stop (wpAny_pure (q h' a)))
theorem stops {Q : Fin → Shared → Prop} (hh : A.handled = none) (q : ∀ h' e, (∀ c o, s.heap.get? c = some o → h'.get? c = some o) → (∃ o, h'.get? e = some o ∧ o.cls = .type "StopIteration") → E (.ref e) { s with heap := h' }) :
    wpAny (model prog w) A (Builtin.SmallTypes.stopIteration (α := Fin)) Q E s := by
  unfold Builtin.SmallTypes.stopIteration
  refine wpAny_bind ?_
  simp only [newExc, newTuple]
  refine wpAny_bind (wpAny_newObj_type ?_ (by size_fits))
  refine wpAny_bind (m := firstArgMember _ _) (wpAny_of_eq (a := .none) rfl ?_)
  refine wpAny_newObj_type ?_ (by size_fits)
  simp only [raiseNew]
  refine wpAny_bind (wpAny_handled ?_)
  rw [hh]
  refine wpAny_bind (wpAny_pure (wpAny_throw ?_))
  exact q _ _ (fun c o e => Heap.get?_push_of_some _ (Heap.get?_push_of_some _ e)) ⟨_, Heap.get?_push_size _ rfl, rfl⟩
theorem letGoZ {es : List Expr} {k : Nat} {pos : Pos} {z TI TO T : Addr} {Q : Unit → Shared → Prop} (hz : ZAt s.heap z TI TO (rawInt T)) (q : ∀ h', ZAt h' z TI TO .none → Heap.SameBut z s.heap h' → Q () { s with heap := h' }) :
    wpAny (model prog w) A (letOwnedTupleGo (.Tuple es k pos) (.ref z) (.ref T)) Q E s := by
  unfold letOwnedTupleGo
  refine wpAny_bind (wpAny_load hz ?_)
  show wpAny _ _ (if (_ && (#[rawInt T, .bool false, .bool true, .ref TI, .ref TO] : Array Value)[0]? == some (rawInt T)) = true then _ else _) Q E s
  rw [if_pos (by simp)]
  exact wpAny_bind (wpAny_rule (wpAny_setField_rec hz (by simp) q))
theorem iterZ {z TI TO : Addr} {f : Value} {Q : Value → Shared → Prop} (hz : ZAt s.heap z TI TO f) (q : Q (.ref z) s) : wpAny (model prog w) A (pyIter (.ref z)) Q E s := by
  have ty : s.TypeIs (.ref z) "zip" := ⟨_, hz, rfl⟩
  exact wpAny_pyIter_slot ty F.slot_zip_iter (wpAny_call_entry F.slot_zip_iter ty F.entry_zip_iter (show wpAny _ _ (ret (.ref z)) _ _ s from wpAny_pure ⟨_, rfl, "zip", _, ty, F.slot_zip_next.lookup, q⟩) (F.args_zip_iter_1 _))
end
end ZS

namespace ZS
open PySem PySem.Spec PyProof.Rows L2
section
variable {prog : Program} {w : World} {A : Around} {E : Value → Shared → Prop} {s : Shared} {z TI TO i1 i2 l1 l2 : Addr} {k : Nat} {xs ys : Array Value} {a b : Value}
theorem itemZ {x y : Value} {Q : Value → Shared → Prop} (D : ZipApart z TI TO i1 i2 l1 l2) (hz : ZAt s.heap z TI TO .none) (hTI : IsPair s.heap TI (.ref i1) (.ref i2)) (hTO : IsPair s.heap TO a b)
    (v1 : s.heap.IsListIter i1 l1 k) (v2 : s.heap.IsListIter i2 l2 k) (p1 : s.heap.IsList l1 xs) (p2 : s.heap.IsList l2 ys) (hx : xs[k]? = some x) (hy : ys[k]? = some y)
    (q : ∀ h', ZAt h' z TI TO (rawInt s.heap.objs.size) → IsPair h' TO x y → h'.IsListIter i1 l1 (k + 1) → h'.IsListIter i2 l2 (k + 1) → IsPair h' s.heap.objs.size x y →
      (∀ c o, c ≠ z → c ≠ TO → c ≠ i1 → c ≠ i2 → s.heap.get? c = some o → h'.get? c = some o) → Q (.ref s.heap.objs.size) { s with heap := h' }) :
    wpAny (model prog w) A (Builtin.«zip.__next__» ⟨[.ref z], []⟩) (fun fin s' => ∃ v, fin = .done (.ret v) ∧ Q v s') E s := by
  show wpAny _ _ (field (.ref z) 2 >>= _) _ _ _
  refine wpAny_bind (wpAny_field hz rfl (x := .bool true) rfl ?_)
  show wpAny _ _ (field (.ref z) 3 >>= _) _ _ _
  refine wpAny_bind (wpAny_field hz rfl (x := .ref TI) rfl (wpAny_bind (wpAny_seqItems hTI rfl ?_)))
  show wpAny _ _ (Builtin.SmallTypes.ownedTupleIsFree (.ref z) >>= _) _ _ _
  refine wpAny_bind (show wpAny _ _ (field (.ref z) 0 >>= _) _ _ _ from wpAny_bind (wpAny_field hz rfl (x := .none) rfl (wpAny_pure ?_)))
  simp only [if_true]
  refine wpAny_bind (wpAny_rule (wpAny_bind (wpAny_field hz rfl (x := .ref TO) rfl (wpAny_bind (wpAny_setField_rec hz (by simp) fun t1 z1 d1 => ?_)))))
  have e1 := d1.extBut
  have zz1 : ZAt t1 z TI TO .ellipsis := z1
  refine wpAny_bind ?_
  simp only [List.zipIdx_cons, List.zipIdx_nil, List.forIn_cons, List.forIn_nil]
  refine wpAny_bind (wpAny_bind (wpAny_onRaise ?_))
  show wpAny _ _ (Builtin.SmallTypes.nextOrEnd (.ref i1)) _ _ _
  refine got (v1.extBut e1 D.i1z) (p1.extBut e1 D.l1z) hx fun t2 w1 d2 => ?_
  have e2 := d2.extBut
  have hTO2 : IsPair t2 TO a b := e2 _ _ D.TOi1 (e1 _ _ D.TOz hTO)
  refine wpAny_bind (wpAny_seqItems hTO2 rfl (wpAny_bind (wpAny_updateSeq_pair hTO2 fun t3 u3 d3 => wpAny_bind (wpAny_letGo (wpAny_pure ?_)))))
  have e3 := d3.extBut
  have hTO3 : IsPair t3 TO x b := u3
  refine wpAny_bind (wpAny_bind (wpAny_onRaise ?_))
  show wpAny _ _ (Builtin.SmallTypes.nextOrEnd (.ref i2)) _ _ _
  refine got (((v2.extBut e1 D.i2z).extBut e2 D.i12.symm).extBut e3 D.TOi2.symm) (((p2.extBut e1 D.l2z).extBut e2 D.l2i1).extBut e3 D.l2TO) hy fun t4 w2 d4 => ?_
  have e4 := d4.extBut
  have hTO4 : IsPair t4 TO x b := e4 _ _ D.TOi2 hTO3
  refine wpAny_bind (wpAny_seqItems hTO4 rfl (wpAny_bind (wpAny_updateSeq_pair hTO4 fun t5 u5 d5 => wpAny_bind (wpAny_letGo (wpAny_pure (wpAny_pure ?_))))))
  have e5 := d5.extBut
  have hTO5 : IsPair t5 TO x y := u5
  refine wpAny_bind (wpAny_seqItems hTO5 rfl (wpAny_bind (wpAny_newTuple ?_)))
  have sz : t5.objs.size = s.heap.objs.size := d5.1.trans (d4.1.trans (d3.1.trans (d2.1.trans d1.1)))
  have zz5 : ZAt t5 z TI TO .ellipsis := e5 _ _ D.TOz.symm (e4 _ _ D.i2z.symm (e3 _ _ D.TOz.symm (e2 _ _ D.i1z.symm zz1)))
  have fr5 : ∀ c o, c ≠ z → c ≠ TO → c ≠ i1 → c ≠ i2 → s.heap.get? c = some o → t5.get? c = some o := fun c o n1 n2 n3 n4 e => e5 _ _ n2 (e4 _ _ n4 (e3 _ _ n2 (e2 _ _ n3 (e1 _ _ n1 e))))
  have v15 : t5.IsListIter i1 l1 (k + 1) := ((w1.extBut e3 D.TOi1.symm).extBut e4 D.i12).extBut e5 D.TOi1.symm
  have v25 : t5.IsListIter i2 l2 (k + 1) := w2.extBut e5 D.TOi2.symm
  have zl : z < t5.objs.size := Heap.lt_size zz5
  show wpAny _ _ (Builtin.SmallTypes.ownedTupleHandOut (.ref z) (.ref t5.objs.size) >>= _) _ _ _
  have zz6 : ZAt (t5.push { cls := .type "tuple", data := .seq #[x, y] }) z TI TO .ellipsis := Heap.get?_push_of_some _ zz5
  refine wpAny_bind (show wpAny _ _ (setField (.ref z) 0 (rawInt t5.objs.size) >>= fun _ => setField (.ref z) 1 (.bool false)) _ _ _ from wpAny_bind (wpAny_setField_rec zz6 (by simp) fun t7 z7 d7 => ?_))
  have zz7 : ZAt t7 z TI TO (rawInt t5.objs.size) := z7
  refine wpAny_setField_rec zz7 (by simp) fun t8 z8 d8 => ?_
  have zz8 : ZAt t8 z TI TO (rawInt t5.objs.size) := z8
  have up : ∀ c o, c ≠ z → t5.get? c = some o → t8.get? c = some o := fun c o n e => d8.extBut _ _ n (d7.extBut _ _ n (Heap.get?_push_of_some _ e))
  have pT : IsPair t8 t5.objs.size x y := d8.extBut _ _ (Nat.ne_of_gt zl) (d7.extBut _ _ (Nat.ne_of_gt zl) (Heap.get?_push_size _ rfl))
  rw [sz] at zz8 pT
  refine wpAny_pure ⟨_, rfl, ?_⟩
  show Q (.ref t5.objs.size) _
  rw [sz]
  exact q t8 zz8 (up _ _ D.TOz hTO5) (v15.at fun o e => up _ o D.i1z e) (v25.at fun o e => up _ o D.i2z e) pT fun c o n1 n2 n3 n4 e => up c o n1 (fr5 c o n1 n2 n3 n4 e)
theorem endZ {Q : Fin → Shared → Prop} (hh : A.handled = none) (D : ZipApart z TI TO i1 i2 l1 l2) (hz : ZAt s.heap z TI TO .none) (hTI : IsPair s.heap TI (.ref i1) (.ref i2)) (hTO : IsPair s.heap TO a b)
    (v1 : s.heap.IsListIter i1 l1 k) (v2 : s.heap.IsListIter i2 l2 k) (p1 : s.heap.IsList l1 xs) (p2 : s.heap.IsList l2 ys) (hx : xs[k]? = none) (hy : ys[k]? = none)
    (q : ∀ h' e, (∀ c o, c ≠ z → c ≠ TO → c ≠ i1 → c ≠ i2 → s.heap.get? c = some o → h'.get? c = some o) → (∃ o, h'.get? e = some o ∧ o.cls = .type "StopIteration") → E (.ref e) { s with heap := h' }) :
    wpAny (model prog w) A (Builtin.«zip.__next__» ⟨[.ref z], []⟩) Q E s := by
  show wpAny _ _ (field (.ref z) 2 >>= _) _ _ _
  refine wpAny_bind (wpAny_field hz rfl (x := .bool true) rfl ?_)
  show wpAny _ _ (field (.ref z) 3 >>= _) _ _ _
  refine wpAny_bind (wpAny_field hz rfl (x := .ref TI) rfl (wpAny_bind (wpAny_seqItems hTI rfl ?_)))
  show wpAny _ _ (Builtin.SmallTypes.ownedTupleIsFree (.ref z) >>= _) _ _ _
  refine wpAny_bind (show wpAny _ _ (field (.ref z) 0 >>= _) _ _ _ from wpAny_bind (wpAny_field hz rfl (x := .none) rfl (wpAny_pure ?_)))
  simp only [if_true]
  refine wpAny_bind (wpAny_rule (wpAny_bind (wpAny_field hz rfl (x := .ref TO) rfl (wpAny_bind (wpAny_setField_rec hz (by simp) fun t1 z1 d1 => ?_)))))
  have e1 := d1.extBut
  have zz1 : ZAt t1 z TI TO .ellipsis := z1
  refine wpAny_bind ?_
  simp only [List.zipIdx_cons, List.zipIdx_nil, List.forIn_cons, List.forIn_nil]
  refine wpAny_bind (wpAny_bind (wpAny_onRaise ?_))
  show wpAny _ _ (Builtin.SmallTypes.nextOrEnd (.ref i1)) _ _ _
  refine gone hh (v1.extBut e1 D.i1z) (p1.extBut e1 D.l1z) hx fun t2 d2 => ?_
  have zz2 : ZAt t2 z TI TO .ellipsis := d2 _ _ D.i1z.symm zz1
  refine wpAny_bind (wpAny_setField_rec zz2 (by simp) fun t3 z3 d3 => ?_)
  have e3 := d3.extBut
  refine wpAny_bind ?_
  show wpAny _ _ (forIn [(Value.ref i2, 1)] _ _ >>= _) _ _ _
  refine wpAny_bind ?_
  simp only [List.forIn_cons, List.forIn_nil]
  refine wpAny_bind (wpAny_bind (gone hh (((v2.extBut e1 D.i2z).extBut d2 D.i12.symm).extBut e3 D.i2z) (((p2.extBut e1 D.l2z).extBut d2 D.l2i1).extBut e3 D.l2z) hy fun t4 d4 => ?_))
  simp only [Option.isSome_none, Bool.false_eq_true, if_false]
  refine wpAny_pure (wpAny_pure (wpAny_bind (wpAny_rule (stops hh fun h' e up he => q h' e (fun c o n1 n2 n3 n4 g => up _ _ (d4 _ _ n4 (e3 _ _ n1 (d2 _ _ n3 (e1 _ _ n1 g))))) he))))
end
end ZS

namespace ZS
open PySem PySem.Spec PyProof.Rows L2
/-- as Itz, at its end both lists are through -/
def Its (K : PySem.W.Frag) (a b : Addr) : It := { Itz K a b with stop := fun i H => ∃ xs ys : List V, SqL K H a xs ∧ SqL K H b ys ∧ xs.length ≤ i ∧ ys.length ≤ i }
theorem five {a b c d e x : Addr} {p : Addr → Prop} (h : x ∈ [a, b, c, d, e]) (h1 : p a) (h2 : p b) (h3 : p c) (h4 : p d) (h5 : p e) : p x := by
  rcases (show x = a ∨ x = b ∨ x = c ∨ x = d ∨ x = e by simpa using h) with q | q | q | q | q <;> rw [q] <;> assumption
theorem five_ne {a b c d e x : Addr} (h : x ∉ [a, b, c, d, e]) : x ≠ a ∧ x ≠ b ∧ x ≠ c ∧ x ≠ d ∧ x ≠ e := by simpa using h
theorem turnZ {P : Program} {w : World} {K : PySem.W.Frag} {es : List Expr} {kk : Nat} {tp : Pos} {a b z TI TO i1 i2 : Addr} (D : ZipApart z TI TO i1 i2 a b) :
    Turn P w K (.Tuple es kk tp) (Its K a b) [z, TI, TO, i1, i2] z fun i h => ZAt h z TI TO .none ∧ IsPair h TI (.ref i1) (.ref i2) ∧ (∃ x y, IsPair h TO x y) ∧ h.IsListIter i1 a i ∧ h.IsListIter i2 b i where
  mem := List.mem_cons_self
  obj := fun i h ⟨hz, hTI, ⟨x, y, hTO⟩, ⟨o1, e1, _, d1⟩, ⟨o2, e2, _, d2⟩⟩ c hc => five (p := fun c => ∃ o, h.get? c = some o ∧ ∀ v, o.data ≠ .cell v) hc ⟨_, hz, fun _ q => nomatch q⟩ ⟨_, hTI, fun _ q => nomatch q⟩ ⟨_, hTO, fun _ q => nomatch q⟩
    ⟨o1, e1, fun v q => by rw [d1] at q; cases q⟩ ⟨o2, e2, fun v q => by rw [d2] at q; cases q⟩
  keep := fun i h h' ⟨hz, hTI, ⟨x, y, hTO⟩, v1, v2⟩ k => ⟨k z (by simp) _ hz, k TI (by simp) _ hTI, ⟨x, y, k TO (by simp) _ hTO⟩, v1.at fun o q => k i1 (by simp) o q, v2.at fun o q => k i2 (by simp) o q⟩
  item := by
    intro X hP hw hK hc i pins s σ H E I hf ⟨hz, hTI, ⟨x0, y0, hTO⟩, v1, v2⟩ ⟨xs, ys, x, y, qx, qy, hx, hy⟩
    subst hP hw hK
    obtain ⟨us1, r1, p1, _⟩ := I.list qx
    obtain ⟨us2, r2, p2, _⟩ := I.list qy
    obtain ⟨u1, g1, ru1⟩ := r1.get hx
    obtain ⟨u2, g2, ru2⟩ := r2.get hy
    have ty : s.TypeIs (.ref z) "zip" := ⟨_, hz, rfl⟩
    have lz := Heap.lt_size hz
    refine wpAny_bind (wpAny_attempt (wpAny_callSpecial?_slot (name := Str.ofString "__next__") ty F.slot_zip_next (wpAny_call_entry F.slot_zip_next ty F.entry_zip_next
      (itemZ D hz hTI hTO v1 v2 p1.isList p2.isList (x := u1) (y := u2) (by simpa using g1) (by simpa using g2) fun h' a1 a2 a3 a4 a5 a7 => wpAny_pure ⟨_, rfl, ?_⟩) (F.args_zip_next_1 _))))
    refine letGoZ (s := { s with heap := h' }) a1 fun h'' zz sb => ?_
    have nw : h''.get? s.heap.objs.size = some { cls := .type "tuple", data := .seq #[u1, u2] } := (sb.2 _ (Nat.ne_of_gt lz)).trans a5
    have ok2 : ObjOk X.prog X.w (upd H s.heap.objs.size (.tup [x, y])) h'' s.heap.objs.size (.tup [x, y]) := ⟨show 2 ≤ sizeLine by decide, [u1, u2], .cons ru1 (.cons ru2 .nil), _, nw, rfl, _, rfl⟩
    have I1 : Inv X pins σ (upd H s.heap.objs.size (.tup [x, y])) { s with heap := h'' } := I.turnedNew (t' := s.toks) (ch := [z, TI, TO, i1, i2])
      (fun c o hb q => let ⟨n1, _, n3, n4, n5⟩ := five_ne hb; (sb.2 c n1).trans (a7 c o n1 n3 n4 n5 q)) hf (Nat.le_refl _) ok2
    refine ⟨.ref s.heap.objs.size, _, I1, rfl, ⟨_, x, y, rfl, I.hok.fresh (Nat.le_refl _), rfl, fun l hl => by rw [I.list_inj hl qx]; exact hx, fun l hl => by rw [I.list_inj hl qy]; exact hy⟩,
      ⟨zz, (sb.2 _ D.TIz).trans (a7 _ _ D.TIz D.TITO D.TIi1 D.TIi2 hTI), ⟨u1, u2, (sb.2 _ D.TOz).trans a2⟩, a3.at fun o q => (sb.2 _ D.i1z).trans q, a4.at fun o q => (sb.2 _ D.i2z).trans q⟩, fun c hcm => ?_⟩
    have lt : c < s.heap.objs.size := five (p := fun c => c < s.heap.objs.size) hcm lz (Heap.lt_size hTI) (Heap.lt_size hTO) (let ⟨_, e, _⟩ := v1; Heap.lt_size e) (let ⟨_, e, _⟩ := v2; Heap.lt_size e)
    rw [upd_ne (Nat.ne_of_lt lt)]
    exact (hf c hcm).1
  done := by
    intro X hP hw hK hc i pins s σ H E I hf ⟨hz, hTI, ⟨x0, y0, hTO⟩, v1, v2⟩ ⟨xs, ys, qx, qy, b1, b2⟩
    subst hP hw hK
    obtain ⟨us1, r1, p1, _⟩ := I.list qx
    obtain ⟨us2, r2, p2, _⟩ := I.list qy
    have n1 := r1.length
    have n2 := r2.length
    have ty : s.TypeIs (.ref z) "zip" := ⟨_, hz, rfl⟩
    refine wpAny_bind (wpAny_attempt (wpAny_callSpecial?_slot (name := Str.ofString "__next__") ty F.slot_zip_next (wpAny_call_entry F.slot_zip_next ty F.entry_zip_next
      (endZ (I.ok.hd hc) D hz hTI hTO v1 v2 p1.isList p2.isList (by simp; omega) (by simp; omega) fun h' e hk ⟨o, ho, hcl⟩ => ?_) (F.args_zip_next_1 _))))
    refine wpAny_bind (wpAny_isInstance (T := "StopIteration") (b := true) ⟨o, ho, hcl⟩ isSubtype_stop (wpAny_pure ⟨rfl, ?_⟩))
    exact I.turnedL (t' := s.toks) (ch := [z, TI, TO, i1, i2]) (fun c o hb q => let ⟨n1, _, n3, n4, n5⟩ := five_ne hb; hk c o n1 n3 n4 n5 q) hf
  self := fun A i s Q E st q => iterZ st.1 q
end ZS

namespace ZS
open PySem PySem.Spec PyProof.Rows L2
theorem cwT {M : Model} {A : Around} {E : Value → Shared → Prop} {s : Shared} {pos : Pos} {T : String} {args : List (Bool × Sem Value)} {kws : List (Option Str × Sem Value)} {Q : Value → Shared → Prop} (n1 : args.any (·.1) = false) (n2 : kws.any (·.1.isNone) = false)
    (h : wpAny M A (evalArgs (.type T) true args kws) (fun a s' => wpAny M A (call (.type T) a.pos a.kw) Q E s') E s) : wpAny M A (callWith pos (.type T) [] args kws) Q E s := by
  unfold callWith
  refine wpAny_bind (wpAny_holding (wpAny_mono h (fun a s' h' => wpAny_bind (wpAny_standAt ?_)) fun _ _ x => x))
  simp only [n1, n2, Bool.or_false]
  refine wpAny_bind (wpAny_pure ?_)
  exact wpAny_bind (wpAny_mono h' (fun r s'' hr => wpAny_bind (wpAny_holding (wpAny_point (wpAny_pure hr)))) fun _ _ x => x)
section
variable {X : Cx} {e e2 : Expr} {ta : TA} {p pos tp kp cp : Pos} {es : List Expr} {kk j : Nat}
theorem pi_zipS (hg : Gl X "zip") (hm : X.mg "zip" = none) (ha : PA X [e, e2] ta) (hs : starEach [e, e2] X.env = (false, eval e X.env) :: starEach [e2] X.env) (hpl : (backTo pos (starEach [e2] X.env)).any (·.1) = false) :
    PI X (.Tuple es kk tp) (.Call (.Name "zip" p) [e, e2] [⟨some (Str.ofString "strict"), .Constant (.bool true) j cp, kp⟩] pos) fun σ H R => ta σ H fun vs H1 => ∃ a b xs ys, vs = [.ref a, .ref b] ∧ SqL X.K H1 a xs ∧ SqL X.K H1 b ys ∧ R (Its X.K a b) H1 := by
  refine ⟨fun pins s σ H R I h => ?_⟩
  refine wpAny_Call_Name_kw ?_
  refine ld_blt I hg hm PyProof.Rows.boot_zip ?_
  refine cwT ?_ rfl ?_
  · rw [hs]
    show (false || (backTo pos (starEach [e2] X.env)).any (·.1)) = false
    rw [hpl]; rfl
  have run := ha.run pos pins s σ H _ I h
  rw [hs] at run ⊢
  refine evalArgs_kwB (by rfl) (wpAny_mono run (fun us s1 ⟨vs, H1, I1, r1, a, b, xs, ys, ev, qx, qy, q⟩ => ?_) fun _ _ x => x)
  subst ev
  cases r1 with
  | cons q1 rr =>
    cases rr with
    | cons q2 rr =>
      cases rr
      cases q1
      cases q2
      have one : (backToKw pos (keywordEach [⟨some (Str.ofString "strict"), .Constant (.bool true) j cp, kp⟩] X.env)).map (·.2) = [(do let v ← eval (.Constant (.bool true) j cp) X.env; standAt pos; pure v)] := rfl
      rw [one]
      refine wpAny_evalAll_cons (wpAny_bind (wpAny_mono ((pe_bl (X := X) (b := true) (j := j) (pos := cp)).run pins s1 σ H1 (fun v H' => v = .bl true ∧ H' = H1) I1 ⟨rfl, rfl⟩) (fun u s2 hu => ?_) fun _ _ x => x))
      obtain ⟨v, H2, I2, ru, rfl, rfl⟩ := hu
      cases ru
      refine wpAny_bind (wpAny_standAt (wpAny_pure (wpAny_evalAll_nil ?_)))
      show wpAny _ _ (call (.type "zip") [.ref a, .ref b] kwS) _ _ _
      obtain ⟨us1, r1, p1, _⟩ := I2.list qx
      obtain ⟨us2, r2, p2, _⟩ := I2.list qy
      refine callZ p1.isList p2.isList fun h' hz hTI hTO v1 v2 hk => iterZ hz ?_
      have I3 : Inv X pins σ H2 { s2 with heap := h' } := I2.kept (t' := s2.toks) hk
      refine ⟨s2.heap.objs.size + 4, [s2.heap.objs.size + 4, s2.heap.objs.size + 2, s2.heap.objs.size + 3, s2.heap.objs.size, s2.heap.objs.size + 1], _, _, H2, rfl, I3, turnZ (PySem.W.ktu_apart s2.heap.objs.size a b p1.lt p2.lt), ⟨hz, hTI, ⟨_, _, hTO⟩, v1, v2⟩, fun c hc => ?_, q⟩
      have le : s2.heap.objs.size ≤ c := five (p := fun c => s2.heap.objs.size ≤ c) hc (Nat.le_add_right _ _) (Nat.le_add_right _ _) (Nat.le_add_right _ _) (Nat.le_refl _) (Nat.le_add_right _ _)
      exact I2.fpOk le (I2.hok.fresh le)
end
end ZS

/-! Mini, part B: the small language, what a text of it means (by what is wanted behind it), and when it is the text that stands in the program. -/
namespace Mini
open PySem PySem.Spec PyProof.Rows L2

structure Exn where
  cls : Str
  val : EV

abbrev QE : Type := EV → ST → Prop
abbrev QX : Type := Exn → ST → Prop
abbrev ME : Type := Ev → ST → QE → QX → Prop
abbrev MT : Type := Ev → ST → (Bool → ST → Prop) → QX → Prop
abbrev MA : Type := Ev → ST → (List EV → ST → Prop) → QX → Prop
/-- what a def is worth -/
abbrev Spec : Type := List EV → ST → QE → QX → Prop
structure KK where
  nx : Ev → ST → Prop
  rt : EV → ST → Prop
  bk : Ev → ST → Prop
  ct : Ev → ST → Prop
  ex : QX
abbrev MS : Type := Ev → ST → KK → Prop
/-- what a for walks: its items, and what must stay so between the turns -/
abbrev MI : Type := Ev → ST → (List PyData → (ST → Prop) → ST → Prop) → QX → Prop

inductive Blt where
  | len | int | abs | repr | reprd | sum | max | min | list | tuple | bool | sorted
  deriving DecidableEq
def Blt.name : Blt → Str
  | .len => "len" | .int => "int" | .abs => "abs" | .repr => "repr" | .reprd => "repr" | .sum => "sum" | .max => "max" | .min => "min" | .list => "list" | .tuple => "tuple" | .bool => "bool" | .sorted => "sorted"

mutual
inductive E where
  | var (i : Nat)
  | cst (x : PyData)
  | glb (nm : Str) (x : PyData)
  | un (op : UnaryOp) (a : E)
  | bin (op : Operator) (a b : E)
  | cmp (op : CmpOp) (a b : E)
  | isc (neg : Bool) (a : E) (c : PyData)
  | chain (o1 o2 : CmpOp) (a b c : E)
  | bop (op : BoolOp) (es : EL)
  | ite (c a b : E)
  | tup (es : EL)
  | lst (cell : Bool) (es : EL)
  | idx (a i : E)
  | slc (a : E) (lo hi : EO)
  | call (f : Nat) (es : EL)
  | blt (b : Blt) (es : EL)
  | isi (a : E) (t : String)
  | bits (a : E)
  | binc (op : Operator) (a b : E)
  | lrng1 (a : E)
  | lrng2 (a b : E)
  | callb (f : Nat) (es : EL)
  | dct0
  | comp (own : List (Str × Nat)) (t : T) (it : I) (cs : EO) (e : E)
inductive EL where
  | nil
  | cons (e : E) (es : EL)
inductive EO where
  | none
  | some (e : E)
inductive T where
  | var (i : Nat)
  | tup (ts : TL)
inductive TL where
  | nil
  | cons (t : T) (ts : TL)
inductive I where
  | dat (e : E)
  | rng1 (a : E)
  | rng2 (a b : E)
  | enum (e : E)
  | zip (a b : E)
  | zips (a b : E)
end

mutual
inductive S where
  | expr (e : E)
  | asg (t : T) (e : E)
  | par (is : List Nat) (es : EL)
  | par2 (is : List Nat) (es : EL)
  | set (o i v : E)
  | app (o v : E)
  | ite (c : E) (a b : B)
  | for_ (t : T) (it : I) (b : B)
  | whl (c : E) (b : B)
  | ret (e : E)
  | retN
  | brk
  | pass
  | stuck
inductive B where
  | nil
  | cons (s : S) (b : B)
end

/-! ### operations on data -/
def line : Nat := 16777216
def opF : Operator → PyData → PyData → Option PyData
  | .Add, .int a, .int b => some (.int (a + b))
  | .Add, .str a, .str b => if a.length + b.length ≤ line then some (.str (a ++ b)) else none
  | .Add, .list a, .list b => if a.length + b.length ≤ line then some (.list (a ++ b)) else none
  | .Add, .tuple a, .tuple b => if a.length + b.length ≤ line then some (.tuple (a ++ b)) else none
  | .Sub, .int a, .int b => some (.int (a - b))
  | .Mult, .int a, .int b => if (Builtin.Int.intBits a : Int) + (Builtin.Int.intBits b : Int) ≤ 134217728 then some (.int (a * b)) else none
  | .Mult, .list a, .int k => if -(2 ^ 63) ≤ k ∧ k < 2 ^ 63 ∧ a.length * k.toNat ≤ line then some (.list (List.replicate k.toNat a).flatten) else none
  | .FloorDiv, .int a, .int b => if 0 < b ∧ b.natAbs.log2 < 9000 then some (.int (a / b)) else none
  | .Mod, .int a, .int b => if 0 < b then some (.int (a % b)) else none
  | .Pow, .int a, .int b => if 0 ≤ b ∧ (Builtin.Int.intBits a : Int) * b ≤ 2 ^ 27 then some (.int (a ^ b.toNat)) else none
  | .LShift, .int a, .int b => if 0 ≤ b ∧ (Builtin.Int.intBits a : Int) + b ≤ 2 ^ 27 then some (.int (a * 2 ^ b.toNat)) else none
  | .RShift, .int a, .int b => if 0 ≤ b then some (.int (a / 2 ^ b.toNat)) else none
  | .BitAnd, .int a, .int b => some (.int (Builtin.bitAnd a b))
  | .BitOr, .int a, .int b => some (.int (Builtin.bitOr a b))
  | .BitXor, .int a, .int b => some (.int (Builtin.bitXor a b))
  | _, _, _ => none
def unF : UnaryOp → PyData → Option PyData
  | .USub, .int a => some (.int (-a))
  | _, _ => none
/-- scalars -/
def flatP : PyData → Bool
  | .none | .bool _ | .int _ | .str _ => true
  | _ => false
def toV : PyData → V
  | .none => .non
  | .bool b => .bl b
  | .int i => .int i
  | .str x => .str x
  | _ => .non
def inF (x : PyData) (ys : List PyData) : Option Bool :=
  if flatP x = true ∧ ys.all flatP = true then some (inV (toV x) (ys.map toV)) else none
/-- in a list, items of any depth -/
def inL (x : PyData) (ys : List PyData) : Option Bool :=
  if flatP x = true ∧ ys.all flatP = true then inF x ys else if SeqAt.shaped x = true ∧ SeqAt.shaped (.list ys) = true then some (ys.any fun z => PyData.eqv z x) else none
def strsP : PyData → PyData → Bool
  | .str _, .str _ => true
  | _, _ => false
def isNoneP : PyData → Bool
  | .none => true
  | _ => false
/-- two that are alike have an order -/
def ltOk (x y : PyData) : Bool := PySem.W.alike x y && !isNoneP x && decide (x.depth ≤ 60)
def cmpF : CmpOp → PyData → PyData → Option Bool
  | .Eq, x, y => if strsP x y = true ∨ (SeqAt.shaped x = true ∧ SeqAt.shaped y = true) then some (PyData.eqv x y) else none
  | .NotEq, x, y => if strsP x y = true ∨ (SeqAt.shaped x = true ∧ SeqAt.shaped y = true) then some (!PyData.eqv x y) else none
  | .Lt, .int a, .int b => some (decide (a < b))
  | .LtE, .int a, .int b => some (decide (a ≤ b))
  | .Gt, .int a, .int b => some (decide (b < a))
  | .GtE, .int a, .int b => some (decide (b ≤ a))
  | .Lt, x, y => if ltOk x y = true then some (PySem.W.dataLt x y) else none
  | .Gt, x, y => if ltOk x y = true then some (PySem.W.dataLt y x) else none
  | .LtE, x, y => if ltOk x y = true then some (!PySem.W.dataLt y x) else none
  | .GtE, x, y => if ltOk x y = true then some (!PySem.W.dataLt x y) else none
  | .In, x, .list ys => inL x ys
  | .In, x, .tuple ys => inF x ys
  | .NotIn, x, .list ys => (inL x ys).map (!·)
  | .NotIn, x, .tuple ys => (inF x ys).map (!·)
  | _, _, _ => none
def truF : PyData → Option Bool
  | .none => some false
  | .bool b => some b
  | .int i => some (i != 0)
  | .str x => if x.length ≤ line then some ((x.length : Int) != 0) else none
  | .list xs => some (!xs.isEmpty)
  | .tuple xs => some (!xs.isEmpty)
  | .dict _ => none
def isF : PyData → PyData → Option Bool
  | x, .none => some (isNoneP x)
  | .bool a, .bool b => some (a == b)
  | _, _ => none
def intsF : List PyData → Option (List Int)
  | [] => some []
  | .int i :: r => (intsF r).map (i :: ·)
  | _ :: _ => none
def maxL : List Int → Int
  | [] => 0
  | [a] => a
  | a :: b :: r => if a < maxL (b :: r) then maxL (b :: r) else a
def minL : List Int → Int
  | [] => 0
  | [a] => a
  | a :: b :: r => if minL (b :: r) < a then minL (b :: r) else a
/-- what sorted asks of its items -/
def srtOk (xs : List PyData) : Bool :=
  xs.all (fun d => xs.all fun e => PySem.W.alike d e) && (xs.all (fun d => match d with | .tuple (_ :: _) => true | _ => false) || xs.all (fun d => match d with | .tuple _ => false | .none => false | _ => true)) && xs.all (fun d => decide (d.depth ≤ 60)) && decide (xs.length ≤ line)
def srt (xs : List PyData) : List PyData := xs.mergeSort (PySem.W.dataLe false id)
def noLst : PyData → Bool
  | .list _ => false
  | .dict _ => false
  | .tuple xs => noLsts xs
  | _ => true
where noLsts : List PyData → Bool
  | [] => true
  | x :: xs => noLst x && noLsts xs
def bltF : Blt → List PyData → Option PyData
  | .len, [.list xs] => some (.int xs.length)
  | .len, [.tuple xs] => some (.int xs.length)
  | .len, [.str x] => if x.length ≤ line then some (.int x.length) else none
  | .int, [.int i] => some (.int i)
  | .int, [.bool b] => some (.int (if b then 1 else 0))
  | .abs, [.int i] => some (.int (if i < 0 then -i else i))
  | .repr, [x] => if PyData.showable x = true ∧ SeqAt.shaped x = true ∧ (PyData.shown x).length ≤ line then some (.str (PyData.shown x)) else none
  | .reprd, [x] => match x with
    | .dict [] => some (.str (PyData.shown (.dict [])))
    | x => if PyData.showable x = true ∧ SeqAt.shaped x = true ∧ (PyData.shown x).length ≤ line then some (.str (PyData.shown x)) else none
  | .sum, [.list xs] => (intsF xs).map fun l => .int l.sum
  | .max, [.int a, .int b] => some (.int (if b > a then b else a))
  | .min, [.int a, .int b] => some (.int (if b < a then b else a))
  | .max, [.list xs] => (intsF xs).bind fun l => if 0 < l.length then some (.int (maxL l)) else none
  | .min, [.list xs] => (intsF xs).bind fun l => if 0 < l.length then some (.int (minL l)) else none
  | .list, [.list xs] => some (.list xs)
  | .list, [.tuple xs] => some (.list xs)
  | .tuple, [.list xs] => some (.tuple xs)
  | .tuple, [.tuple xs] => some (.tuple xs)
  | .sorted, [.list xs] => if srtOk xs = true then some (.list (srt xs)) else none
  | .bool, [.int i] => some (.bool (i != 0))
  | .bool, [.bool b] => some (.bool b)
  | _, _ => none
def tyF : PyData → String
  | .none => "NoneType" | .bool _ => "bool" | .int _ => "int" | .str _ => "str" | .list _ => "list" | .tuple _ => "tuple" | .dict _ => "dict"
def isiF (x : PyData) (t : String) : Option Bool := kitB (tyF x) t
def idxF : PyData → PyData → Option PyData
  | .list xs, .int i => atI xs i
  | .tuple xs, .int i => atI xs i
  | .str x, .int i => if x.length ≤ line then (atI x.cps.toList i).map fun c => .str ⟨#[c]⟩ else none
  | _, _ => none
def cutP (xs : List PyData) (lo hi : Option Int) : List PyData := (xs.drop (HT.sIx xs.length 0 lo)).take (HT.sIx xs.length xs.length hi - HT.sIx xs.length 0 lo)
def slcF : PyData → Option Int → Option Int → Option PyData
  | .list xs, lo, hi => some (.list (cutP xs lo hi))
  | .tuple xs, lo, hi => some (.tuple (cutP xs lo hi))
  | _, _, _ => none

/-- a value looked at as data -/
def look (st : ST) : EV → Option PyData
  | .d x => some x
  | .cell n => (st[n]?).map .list
def looks (st : ST) : List EV → Option (List PyData)
  | [] => some []
  | v :: vs => (look st v).bind fun x => (looks st vs).map (x :: ·)
/-- data alone -/
def datas : List EV → Option (List PyData)
  | [] => some []
  | .d x :: vs => (datas vs).map (x :: ·)
  | .cell _ :: _ => none

/-! ### meanings -/
structure Tab where
  fns : List (Str × Nat × Spec)
  glbs : List (Str × PyData)
  blts : List Str

structure DE where
  v : ME
  t : MT
structure DL where
  args : MA
  isNil : Bool
  andV : ME
  orV : ME
  andT : MT
  orT : MT
def testOf (m : ME) : MT := fun env st Q X => m env st (fun v s => ∃ x b, look s v = some x ∧ truF x = some b ∧ Q b s) X
def DE.of (m : ME) : DE := ⟨m, testOf m⟩
def boolOf (m : MT) : ME := fun env st Q X => m env st (fun b s => Q (.d (.bool b)) s) X
def strict2 (a b : ME) (f : PyData → PyData → Option PyData) : ME := fun env st Q X => a env st (fun v s1 => b env s1 (fun u s2 => ∃ x y r, look s2 v = some x ∧ look s2 u = some y ∧ f x y = some r ∧ Q (.d r) s2) X) X
def strict1 (a : ME) (f : PyData → Option PyData) : ME := fun env st Q X => a env st (fun v s1 => ∃ x r, look s1 v = some x ∧ f x = some r ∧ Q (.d r) s1) X

def bindItems : List Nat → List PyData → Ev → Option Ev
  | [], [], env => some env
  | i :: is, x :: xs, env => bindItems is xs (env.set i (some (.d x)))
  | _, _, _ => none
mutual
def bindT : T → PyData → Ev → Option Ev
  | .var i, x, env => some (env.set i (some (.d x)))
  | .tup ts, .tuple xs, env => bindTs ts xs env
  | .tup ts, .list xs, env => bindTs ts xs env
  | .tup _, _, _ => none
def bindTs : TL → List PyData → Ev → Option Ev
  | .nil, [], env => some env
  | .cons t ts, x :: xs, env => (bindT t x env).bind fun e => bindTs ts xs e
  | .nil, _ :: _, _ => none
  | .cons _ _, [], _ => none
end

/-- a comprehension's turns: acc what is made so far -/
def compGo (bind : PyData → Ev → Option Ev) (test : MT) (elt : ME) (env : Ev) (chk : ST → Prop) : List PyData → List PyData → ST → QE → QX → Prop
  | [], acc, st, Q, _ => Q (.d (.list acc)) st
  | x :: xs, acc, st, Q, X => ∃ e1, bind x env = some e1 ∧ test e1 st (fun b s2 => if b = true then elt e1 s2 (fun v s3 => chk s3 ∧ acc.length < line ∧ ∃ d, v = .d d ∧ compGo bind test elt env chk xs (acc ++ [d]) s3 Q X) X else chk s2 ∧ compGo bind test elt env chk xs acc s2 Q X) X
/-- a for's turns -/
def forGo (bind : PyData → Ev → Option Ev) (body : MS) (chk : ST → Prop) : List PyData → Ev → ST → KK → Prop
  | [], env, st, k => k.nx env st
  | x :: xs, env, st, k => ∃ e1, bind x env = some e1 ∧ body e1 st { nx := fun e s => chk s ∧ forGo bind body chk xs e s k, rt := k.rt, bk := k.nx, ct := fun e s => chk s ∧ forGo bind body chk xs e s k, ex := k.ex }
/-- a while's turns, at most n -/
def whlGo (test : MT) (body : MS) : Nat → Ev → ST → KK → Prop
  | 0, _, _, _ => False
  | n + 1, env, st, k => test env st (fun b s => if b = true then body env s { nx := fun e s' => whlGo test body n e s' k, rt := k.rt, bk := k.nx, ct := fun e s' => whlGo test body n e s' k, ex := k.ex } else k.nx env s) k.ex

def zipP : List PyData → List PyData → List PyData
  | x :: xs, y :: ys => .tuple [x, y] :: zipP xs ys
  | _, _ => []
def enumP : Nat → List PyData → List PyData
  | _, [] => []
  | k, x :: xs => .tuple [.int k, x] :: enumP (k + 1) xs
def rngP (lo : Int) (n : Nat) : List PyData := (List.range n).map fun k : Nat => PyData.int (lo + (k : Int))
def sliceI (m : ME) (o : EO) : Unit := ()

mutual
def den (T : Tab) : E → DE
  | .var i => .of fun env st Q _ => ∃ v, env[i]? = some (some v) ∧ Q v st
  | .cst x => .of fun _ st Q _ => Q (.d x) st
  | .glb _ x => .of fun _ st Q _ => Q (.d x) st
  | .un op a => match op with
    | .Not => ⟨boolOf fun env st Q X => testOf (den T a).v env st (fun b s => Q (!b) s) X, fun env st Q X => (den T a).t env st (fun b s => Q (!b) s) X⟩
    | op => .of (strict1 (den T a).v (unF op))
  | .bin op a b => .of (strict2 (den T a).v (den T b).v (opF op))
  | .cmp op a b => .of (strict2 (den T a).v (den T b).v fun x y => (cmpF op x y).map .bool)
  | .isc neg a c => .of (strict1 (den T a).v fun x => (isF x c).map fun b => .bool (if neg then !b else b))
  | .chain o1 o2 a b c => .of fun env st Q X => (den T a).v env st (fun v s1 => (den T b).v env s1 (fun u s2 => ∃ x y k, look s2 v = some x ∧ look s2 u = some y ∧ cmpF o1 x y = some k ∧
      if k = true then (den T c).v env s2 (fun z s3 => ∃ y' z' r, look s3 u = some y' ∧ look s3 z = some z' ∧ cmpF o2 y' z' = some r ∧ Q (.d (.bool r)) s3) X else Q (.d (.bool false)) s2) X) X
  | .bop op es => match op with
    | .And => ⟨(denL T es).andV, (denL T es).andT⟩
    | .Or => ⟨(denL T es).orV, (denL T es).orT⟩
  | .ite c a b => ⟨fun env st Q X => (den T c).t env st (fun k s => if k = true then (den T a).v env s Q X else (den T b).v env s Q X) X,
      fun env st Q X => (den T c).t env st (fun k s => if k = true then (den T a).t env s Q X else (den T b).t env s Q X) X⟩
  | .tup es => .of fun env st Q X => (denL T es).args env st (fun vs s => ∃ ds, datas vs = some ds ∧ ds.length ≤ line ∧ Q (.d (.tuple ds)) s) X
  | .lst cell es => .of fun env st Q X => (denL T es).args env st (fun vs s => ∃ ds, datas vs = some ds ∧ ds.length ≤ line ∧ if cell = true then Q (.cell s.length) (s ++ [ds]) else Q (.d (.list ds)) s) X
  | .idx a i => .of (strict2 (den T a).v (den T i).v idxF)
  | .slc a lo hi => .of fun env st Q X => (den T a).v env st (fun v s1 => denO T lo env s1 (fun l s2 => denO T hi env s2 (fun h s3 => ∃ x r, look s3 v = some x ∧ slcF x l h = some r ∧ Q (.d r) s3) X) X) X
  | .call f es => .of fun env st Q X => ∃ nm n sp, T.fns[f]? = some (nm, n, sp) ∧ (denL T es).args env st (fun vs s => vs.length = n ∧ sp vs s Q X) X
  | .blt b es => .of fun env st Q X => (denL T es).args env st (fun vs s => ∃ ds r, looks s vs = some ds ∧ bltF b ds = some r ∧ Q (.d r) s) X
  | .isi a t => .of (strict1 (den T a).v fun x => (isiF x t).map .bool)
  | .bits a => .of (strict1 (den T a).v fun x => match x with | .int i => some (.int (Builtin.Int.intBits i : Nat)) | _ => none)
  | .binc op a b => .of fun env st Q X => (den T a).v env st (fun v s1 => (den T b).v env s1 (fun u s2 => ∃ x y ds, look s2 v = some x ∧ look s2 u = some y ∧ opF op x y = some (.list ds) ∧ Q (.cell s2.length) (s2 ++ [ds])) X) X
  | .lrng1 a => .of fun env st Q X => (den T a).v env st (fun v s => ∃ j : Int, v = .d (.int j) ∧ (-(2 ^ 62) ≤ j ∧ j < 2 ^ 62 ∧ j ≤ 2 ^ 24) ∧ Q (.d (.list (rngP 0 j.toNat))) s) X
  | .lrng2 a b => .of fun env st Q X => (den T a).v env st (fun v s => (den T b).v env s (fun u s' => ∃ i j : Int, v = .d (.int i) ∧ u = .d (.int j) ∧ ((-(2 ^ 62) ≤ i ∧ i < 2 ^ 62) ∧ (-(2 ^ 62) ≤ j ∧ j < 2 ^ 62) ∧ j - i ≤ 2 ^ 24) ∧ Q (.d (.list (rngP i (j - i).toNat))) s') X) X
  | .callb f es => .of fun env st Q X => ∃ nm n sp, T.fns[f]? = some (nm, n, sp) ∧ (denL T es).args env st (fun vs s => ∃ ds, looks s vs = some ds ∧ vs.length = n ∧ sp (ds.map .d) [] (fun v s' => ∃ d, s' = [] ∧ v = .d d ∧ noLst d = true ∧ Q (.d d) s) (fun _ _ => False)) X
  | .dct0 => .of fun _ st Q _ => Q (.d (.dict [])) st
  | .comp own t it cs e => .of fun env st Q X => denI T it env st (fun items chk s => compGo (bindT t) (denC T cs) (den T e).v (wipeE env (own.map (·.2))) chk items [] s Q (fun _ _ => False)) X
def denL (T : Tab) : EL → DL
  | .nil => ⟨fun _ st Q _ => Q [] st, true, fun _ _ _ _ => False, fun _ _ _ _ => False, fun _ _ _ _ => False, fun _ _ _ _ => False⟩
  | .cons e es =>
    ⟨fun env st Q X => (den T e).v env st (fun v s => (denL T es).args env s (fun vs s' => Q (v :: vs) s') X) X, false,
     if (denL T es).isNil = true then (den T e).v else fun env st Q X => (den T e).v env st (fun v s => ∃ x b, look s v = some x ∧ truF x = some b ∧ if b = true then (denL T es).andV env s Q X else Q v s) X,
     if (denL T es).isNil = true then (den T e).v else fun env st Q X => (den T e).v env st (fun v s => ∃ x b, look s v = some x ∧ truF x = some b ∧ if b = true then Q v s else (denL T es).orV env s Q X) X,
     if (denL T es).isNil = true then (den T e).t else fun env st Q X => (den T e).t env st (fun b s => if b = true then (denL T es).andT env s Q X else Q false s) X,
     if (denL T es).isNil = true then (den T e).t else fun env st Q X => (den T e).t env st (fun b s => if b = true then Q true s else (denL T es).orT env s Q X) X⟩
def denO (T : Tab) : EO → Ev → ST → (Option Int → ST → Prop) → QX → Prop
  | .none, _, st, Q, _ => Q none st
  | .some e, env, st, Q, X => (den T e).v env st (fun v s => ∃ i, v = .d (.int i) ∧ Q (some i) s) X
/-- a comprehension's test -/
def denC (T : Tab) : EO → MT
  | .none => fun _ st Q _ => Q true st
  | .some e => (den T e).t
def denI (T : Tab) : I → MI
  | .dat e => fun env st R X => (den T e).v env st (fun v s => match v with
      | .d (.list xs) => R xs (fun _ => True) s
      | .d (.tuple xs) => R xs (fun _ => True) s
      | .cell n => ∃ xs, s[n]? = some xs ∧ R xs (fun s' => s'[n]? = some xs) s
      | _ => False) X
  | .rng1 a => fun env st R X => (den T a).v env st (fun v s => ∃ j : Int, v = .d (.int j) ∧ -(2 ^ 62) ≤ j ∧ j < 2 ^ 62 ∧ R (rngP 0 j.toNat) (fun _ => True) s) X
  | .rng2 a b => fun env st R X => (den T a).v env st (fun v s => (den T b).v env s (fun u s' => ∃ i j : Int, v = .d (.int i) ∧ u = .d (.int j) ∧ (-(2 ^ 62) ≤ i ∧ i < 2 ^ 62 ∧ -(2 ^ 62) ≤ j ∧ j < 2 ^ 62) ∧ R (rngP i (j - i).toNat) (fun _ => True) s') X) X
  | .enum e => fun env st R X => (den T e).v env st (fun v s => ∃ xs, v = .d (.list xs) ∧ R (enumP 0 xs) (fun _ => True) s) X
  | .zip a b => fun env st R X => (den T a).v env st (fun v s => (den T b).v env s (fun u s' => ∃ xs ys, v = .d (.list xs) ∧ u = .d (.list ys) ∧ R (zipP xs ys) (fun _ => True) s') X) X
  | .zips a b => fun env st R X => (den T a).v env st (fun v s => (den T b).v env s (fun u s' => ∃ xs ys, v = .d (.list xs) ∧ u = .d (.list ys) ∧ xs.length = ys.length ∧ R (zipP xs ys) (fun _ => True) s') X) X
end

def setAll : List Nat → List EV → Ev → Option Ev
  | [], [], env => some env
  | i :: is, v :: vs, env => setAll is vs (env.set i (some v))
  | _, _, _ => none
mutual
def denS (T : Tab) : S → MS
  | .expr e => fun env st k => (den T e).v env st (fun _ s => k.nx env s) k.ex
  | .asg t e => fun env st k => (den T e).v env st (fun v s => match t with
      | .var i => k.nx (env.set i (some v)) s
      | t => ∃ x e1, v = .d x ∧ bindT t x env = some e1 ∧ k.nx e1 s) k.ex
  | .par2 is es => fun env st k => (denL T es).args env st (fun vs s => vs.length ≤ line ∧ ∃ e1, setAll is vs env = some e1 ∧ k.nx e1 s) k.ex
  | .par is es => fun env st k => (denL T es).args env st (fun vs s => ∃ e1, setAll is vs env = some e1 ∧ k.nx e1 s) k.ex
  | .set o i v => fun env st k => (den T v).v env st (fun x s1 => (den T o).v env s1 (fun u s2 => (den T i).v env s2 (fun j s3 => ∃ n xs d z q, u = .cell n ∧ s3[n]? = some xs ∧ x = .d d ∧ j = .d (.int z) ∧ ixN xs.length z = some q ∧ k.nx env (s3.set n (xs.set q d))) k.ex) k.ex) k.ex
  | .app o v => fun env st k => (den T o).v env st (fun u s1 => ∃ n, u = .cell n ∧ (den T v).v env s1 (fun x s2 => ∃ xs d, s2[n]? = some xs ∧ x = .d d ∧ xs.length < line ∧ k.nx env (s2.set n (xs ++ [d]))) k.ex) k.ex
  | .ite c a b => fun env st k => (den T c).t env st (fun x s => if x = true then denB T a env s k else denB T b env s k) k.ex
  | .for_ t it b => fun env st k => denI T it env st (fun items chk s => forGo (bindT t) (denB T b) chk items env s k) k.ex
  | .whl c b => fun env st k => ∃ n, whlGo (den T c).t (denB T b) n env st k
  | .ret e => fun env st k => (den T e).v env st (fun v s => k.rt v s) k.ex
  | .retN => fun _ st k => k.rt (.d .none) st
  | .brk => fun env st k => k.bk env st
  | .pass => fun env st k => k.nx env st
  | .stuck => fun _ _ _ => False
def denB (T : Tab) : B → MS
  | .nil => fun env st k => k.nx env st
  | .cons s b => fun env st k => denS T s env st { nx := fun e s' => denB T b e s' k, rt := k.rt, bk := k.bk, ct := k.ct, ex := k.ex }
end

/-- a def: parameters, slots, body; keep: it hands back a new cell as such -/
structure Def where
  np : Nat
  ns : Nat
  keep : Nat
  body : B
/-- behind the def its own cells are gone; one that is handed back is a plain list from then on -/
def fin (keep : Nat) (n0 : Nat) (Q : QE) (v : EV) (s : ST) : Prop :=
  match keep with
  | 0 => (match v with
    | .d x => Q (.d x) (s.take n0)
    | .cell n => if n < n0 then Q (.cell n) (s.take n0) else ∃ xs, s[n]? = some xs ∧ Q (.d (.list xs)) (s.take n0))
  | 1 => Q v s
  | _ => ∃ n xs, v = .cell n ∧ n0 ≤ n ∧ s[n]? = some xs ∧ Q (.cell n0) (s.take n0 ++ [xs])
def finX (n0 : Nat) (X : QX) (e : Exn) (s : ST) : Prop := X e (s.take n0) ∧ match e.val with
  | .d _ => True
  | .cell n => n < n0
def denF (T : Tab) (f : Def) : Spec := fun vs st Q X =>
  denB T f.body (vs.map some ++ List.replicate (f.ns - f.np) none) st
    { nx := fun _ s => fin f.keep st.length Q (.d .none) s, rt := fun v s => fin f.keep st.length Q v s, bk := fun _ _ => False, ct := fun _ _ => False, ex := finX st.length X }

mutual
def slotsT : T → List Nat
  | .var i => [i]
  | .tup ts => slotsTs ts
def slotsTs : TL → List Nat
  | .nil => []
  | .cons t ts => slotsT t ++ slotsTs ts
end

/-! ### the text in the program -/
def gl (sc : Scope) (x : Str) : Bool := decide (sc.names.lookup x = some .globalImplicit) && decide ((x == ("__debug__" : Str)) = false) && decide (x ≠ "__name__")
def vis (sc : Scope) (x : Str) : Bool := (decide (sc.names.lookup x = some .local) || decide (sc.names.lookup x = some .cell) || decide (sc.names.lookup x = some .free)) && decide ((x == ("__debug__" : Str)) = false) && decide ((x == ("__classdict__" : Str)) = false)
def loc (sc : Scope) (x : Str) : Bool := decide (sc.names.lookup x = some .local) || decide (sc.names.lookup x = some .cell)
def cstOk : PyData → Const → Bool
  | .none, .none => true
  | .bool a, .bool b => a == b
  | .int a, .int b => decide (a = b)
  | .str a, .str b => decide (a = b)
  | _, _ => false
mutual
def mT (N : List Str) (sc : Scope) : T → PySem.Expr → Bool
  | .var i, .Name x _ => decide (N[i]? = some x) && loc sc x
  | .tup ts, .Tuple es _ _ => mTs N sc ts es
  | _, _ => false
def mTs (N : List Str) (sc : Scope) : TL → List PySem.Expr → Bool
  | .nil, [] => true
  | .cons t ts, e :: es => mT N sc t e && mTs N sc ts es
  | _, _ => false
end
mutual
def mE (T : Tab) (N : List Str) (sc : Scope) : E → PySem.Expr → Bool
  | .var i, p => match p with
    | .Name x _ => decide (N[i]? = some x) && vis sc x
    | _ => false
  | .cst x, p => match p with
    | .Constant c _ _ => cstOk x c
    | _ => false
  | .glb nm x, p => match p with
    | .Name y _ => decide (y = nm) && gl sc nm && (T.glbs.any fun q => decide (q.1 = nm) && PyData.eqv q.2 x && flatP q.2 && flatP x && decide (toV q.2 = toV x))
    | _ => false
  | .un op a, p => match p with
    | .UnaryOp o e _ => decide (o = op) && mE T N sc a e
    | _ => false
  | .bin op a b, p => match p with
    | .BinOp l o r _ => decide (o = op) && mE T N sc a l && mE T N sc b r
    | _ => false
  | .cmp op a b, p => match p with
    | .Compare l [o] [r] _ => decide (o = op) && mE T N sc a l && mE T N sc b r
    | _ => false
  | .isc neg a c, p => match p with
    | .Compare l [o] [.Constant k _ _] _ => decide (o = if neg then .IsNot else .Is) && mE T N sc a l && cstOk c k
    | _ => false
  | .chain o1 o2 a b c, p => match p with
    | .Compare l [q1, q2] [m, r] _ => decide (q1 = o1) && decide (q2 = o2) && mE T N sc a l && mE T N sc b m && mE T N sc c r
    | _ => false
  | .bop op es, p => match p with
    | .BoolOp o xs _ => decide (o = op) && mEL T N sc es xs
    | _ => false
  | .ite c a b, p => match p with
    | .IfExp t x y _ => mE T N sc c t && mE T N sc a x && mE T N sc b y
    | _ => false
  | .tup es, p => match p with
    | .Tuple xs _ _ => mEL T N sc es xs
    | _ => false
  | .lst _ es, p => match p with
    | .List xs _ => mEL T N sc es xs
    | _ => false
  | .idx a i, p => match p with
    | .Subscript x y _ => mE T N sc a x && mE T N sc i y
    | _ => false
  | .slc a lo hi, p => match p with
    | .Subscript x (.Slice l h none _) _ => mE T N sc a x && mEO T N sc lo l && mEO T N sc hi h
    | _ => false
  | .call f es, p => match p with
    | .Call (.Name x _) (y :: ys) [] _ => (match T.fns[f]? with | some q => decide (q.1 = x) | none => false) && gl sc x && mEL T N sc es (y :: ys)
    | _ => false
  | .blt b es, p => match p with
    | .Call (.Name x _) (y :: ys) [] _ => decide (x = b.name) && gl sc x && decide (x ∈ T.blts) && mEL T N sc es (y :: ys)
    | _ => false
  | .isi a t, p => match p with
    | .Call (.Name x _) [e, .Name y _] [] _ => decide (x = "isinstance") && gl sc x && decide (x ∈ T.blts) && decide (y = Str.ofString t) && gl sc y && decide (y ∈ T.blts) && decide (t ∈ ["int", "bool", "str", "list", "tuple", "dict"]) && mE T N sc a e
    | _ => false
  | .bits a, p => match p with
    | .Call (.Attribute e x q) [] [] pos => decide (x = "bit_length") && (q.endLine == pos.line) && mE T N sc a e
    | _ => false
  | .binc op a b, p => match p with
    | .BinOp l o r _ => decide (o = op) && mE T N sc a l && mE T N sc b r
    | _ => false
  | .lrng1 a, p => match p with
    | .Call (.Name x _) [.Call (.Name y _) [z] [] _] [] _ => decide (x = "list") && gl sc x && decide (x ∈ T.blts) && decide (y = "range") && gl sc y && decide (y ∈ T.blts) && mE T N sc a z
    | _ => false
  | .lrng2 a b, p => match p with
    | .Call (.Name x _) [.Call (.Name y _) [z, u] [] _] [] _ => decide (x = "list") && gl sc x && decide (x ∈ T.blts) && decide (y = "range") && gl sc y && decide (y ∈ T.blts) && mE T N sc a z && mE T N sc b u
    | _ => false
  | .callb f es, p => match p with
    | .Call (.Name x _) (y :: ys) [] _ => (match T.fns[f]? with | some q => decide (q.1 = x) | none => false) && gl sc x && mEL T N sc es (y :: ys)
    | _ => false
  | .dct0, p => match p with
    | .Dict [] [] _ => true
    | _ => false
  | .comp own t it cs e, p => match p with
    | .ListComp el [⟨tg, iter, ifs, 0⟩] scope _ => blkC N sc scope own && (slotsT t).all (fun i => decide (i ∈ own.map (·.2))) && mI T N sc it tg iter && mT N scope t tg && mC T N (relS scope sc) cs ifs && mE T N (relS scope sc) e el && decide ((relS scope sc).kind = .function)
    | _ => false
def mEL (T : Tab) (N : List Str) (sc : Scope) : EL → List PySem.Expr → Bool
  | .nil, p => match p with
    | [] => true
    | _ => false
  | .cons e es, p => match p with
    | x :: xs => mE T N sc e x && mEL T N sc es xs
    | _ => false
def mEO (T : Tab) (N : List Str) (sc : Scope) : EO → Option PySem.Expr → Bool
  | .none, p => match p with
    | none => true
    | _ => false
  | .some e, p => match p with
    | some x => mE T N sc e x
    | _ => false
def mC (T : Tab) (N : List Str) (sc : Scope) : EO → List PySem.Expr → Bool
  | .none, p => match p with
    | [] => true
    | _ => false
  | .some e, p => match p with
    | [x] => mE T N sc e x
    | _ => false
def mI (T : Tab) (N : List Str) (sc : Scope) : I → PySem.Expr → PySem.Expr → Bool
  | .dat e, _, p => mE T N sc e p && (match p with | .Set .. => false | _ => true)
  | .rng1 a, _, p => match p with
    | .Call (.Name x _) [y] [] _ => decide (x = "range") && gl sc x && decide (x ∈ T.blts) && mE T N sc a y
    | _ => false
  | .rng2 a b, _, p => match p with
    | .Call (.Name x _) [y, z] [] _ => decide (x = "range") && gl sc x && decide (x ∈ T.blts) && mE T N sc a y && mE T N sc b z
    | _ => false
  | .enum a, tg, p => match tg, p with
    | .Tuple _ _ _, .Call (.Name x _) [y] [] _ => decide (x = "enumerate") && gl sc x && decide (x ∈ T.blts) && mE T N sc a y
    | _, _ => false
  | .zip a b, tg, p => match tg, p with
    | .Tuple _ _ _, .Call (.Name x _) [y, z] [] _ => decide (x = "zip") && gl sc x && decide (x ∈ T.blts) && mE T N sc a y && mE T N sc b z
    | _, _ => false
  | .zips a b, tg, p => match tg, p with
    | .Tuple _ _ _, .Call (.Name x _) [y, z] [⟨some k, .Constant (.bool true) _ _, _⟩] _ => decide (x = "zip") && decide (k = Str.ofString "strict") && gl sc x && decide (x ∈ T.blts) && mE T N sc a y && mE T N sc b z
    | _, _ => false
end
/-- the slots of plain names on one line -/
def mPar (N : List Str) (sc : Scope) : List Nat → List PySem.Expr → Bool
  | [], [] => true
  | i :: is, .Name x _ :: es => decide (N[i]? = some x) && decide (sc.names.lookup x = some .local) && mPar N sc is es
  | _, _ => false
/-- names that are stored one behind the other -/
def mNames (N : List Str) (sc : Scope) : List Nat → List PySem.Expr → Bool
  | [], [] => true
  | i :: is, .Name x _ :: es => decide (N[i]? = some x) && loc sc x && mNames N sc is es
  | _, _ => false
def noLoc (sc : Scope) : PySem.Expr → Bool
  | .Name x _ => !decide (sc.names.lookup x = some .local)
  | _ => false
def lineOf : List PySem.Expr → Nat → Bool
  | [], _ => true
  | .Name _ q :: es, l => (q.line == l) && lineOf es l
  | _ :: _, _ => false
/-- the value of a store is no comprehension -/
def noLc : PySem.Expr → Bool
  | .ListComp .. => false
  | .SetComp .. => false
  | .DictComp .. => false
  | _ => true
def noTup : PySem.Expr → Bool
  | .Tuple .. => false
  | _ => true
def isLst : PySem.Expr → Bool
  | .List .. => true
  | _ => false
mutual
def mS (T : Tab) (N : List Str) (sc : Scope) : S → PySem.Stmt → Bool
  | .expr e, p => match p with
    | .Expr x _ => mE T N sc e x && noLc x
    | _ => false
  | .asg t e, p => match t with
    | .var i => (match p with
      | .Assign [.Name x _] v _ => decide (N[i]? = some x) && loc sc x && mE T N sc e v
      | _ => false)
    | .tup ts => (match p with
      | .Assign [.Tuple es _ _] v _ => mTs N sc ts es && mE T N sc e v && (noTup v || decide (3 < es.length) || (match v with | .Tuple vs _ _ => vs.all (foldedForSure 8) | _ => false))
      | _ => false)
  | .par is es, p => match p with
    | .Assign [.Tuple ts _ _] (.Tuple vs _ _) _ => mPar N sc is ts && (match ts with | .Name _ q :: _ => lineOf ts q.line | _ => false) && decide (ts.length = vs.length) && (decide (is.length = 2) || decide (is.length = 3)) && decide is.Nodup && !(vs.all (constantsAlone 8)) && !(vs.all (foldedForSure 8)) && mEL T N sc es vs
    | _ => false
  | .par2 is es, p => match p with
    | .Assign [.Tuple ts _ _] (.Tuple vs _ _) _ => mNames N sc is ts && ts.any (noLoc sc) && mEL T N sc es vs
    | _ => false
  | .set o i v, p => match p with
    | .Assign [.Subscript x y _] z _ => mE T N sc o x && mE T N sc i y && mE T N sc v z && noLc z
    | _ => false
  | .app o v, p => match p with
    | .Expr (.Call (.Attribute x nm q) [y] [] pos) _ => decide (nm = "append") && (q.endLine == pos.line) && mE T N sc o x && mE T N sc v y
    | _ => false
  | .ite c a b, p => match p with
    | .If x y z _ => mE T N sc c x && mB T N sc a y && mB T N sc b z
    | _ => false
  | .for_ t it b, p => match p with
    | .For x y z [] _ => mT N sc t x && mI T N sc it x y && mB T N sc b z
    | _ => false
  | .whl c b, p => match p with
    | .While x y [] _ => mE T N sc c x && mB T N sc b y
    | _ => false
  | .ret e, p => match p with
    | .Return (some x) _ => mE T N sc e x
    | _ => false
  | .retN, p => match p with
    | .Return none _ => true
    | _ => false
  | .brk, p => match p with
    | .Break _ => true
    | _ => false
  | .pass, p => match p with
    | .Pass _ => true
    | _ => false
  | .stuck, _ => true
def mB (T : Tab) (N : List Str) (sc : Scope) : B → List PySem.Stmt → Bool
  | .nil, p => match p with
    | [] => true
    | _ => false
  | .cons s b, p => match p with
    | x :: xs => mS T N sc s x && mB T N sc b xs
    | _ => false
end
end Mini

/-! Mini, part C: the operations on values keep what part B says of them. -/
namespace Mini
open PySem PySem.Spec PyProof.Rows L2

/-- a value read as data: a list may be somebody's cell -/
def VW (K : PySem.W.Frag) (w : Wd) (r : V) : PyData → Prop
  | .list ds => ∃ a vs, r = .ref a ∧ LR K w.H a vs ∧ RDs K w vs ds
  | x => RD K w r x
section
variable {K : PySem.W.Frag} {w : Wd} {r : V}
theorem VW.of_rd {x : PyData} (h : RD K w r x) : VW K w r x := by
  cases x with
  | list ds => cases h with | lst h r => exact ⟨_, _, rfl, h.lr, r⟩
  | _ => exact h
theorem RV.view (c : COk K w) {v : EV} {x : PyData} (h : RV K w r v) (e : look w.st v = some x) : VW K w r x := by
  cases v with
  | d y =>
    have e' : y = x := Option.some.inj e
    subst e'
    exact .of_rd h
  | cell n =>
    obtain ⟨hn, rfl⟩ := h
    have e' : (w.st[n]?).map PyData.list = some x := e
    cases q : w.st[n]? with
    | none => rw [q] at e'; cases e'
    | some xs =>
      rw [q] at e'
      have e2 : PyData.list xs = x := Option.some.inj e'
      subst e2
      obtain ⟨vs, h1, h2⟩ := c.cell n xs q
      exact ⟨_, vs, rfl, .inl (.inl h1), h2⟩
theorem VW.flat {x : PyData} (h : VW K w r x) (f : flatP x = true) : r = toV x := by
  cases x with
  | none => cases h; rfl
  | bool _ => cases h; rfl
  | int _ => cases h; rfl
  | str _ => cases h; rfl
  | list _ => cases f
  | tuple _ => cases f
  | dict _ => cases f
theorem RDs.flat : ∀ {ds : List PyData} {vs : List V}, RDs K w vs ds → ds.all flatP = true → vs = ds.map toV
  | _, _, .nil, _ => rfl
  | d :: ds, _, .cons h t, f => by
    have f' : flatP d = true ∧ ds.all flatP = true := by simpa using f
    rw [List.map_cons, (VW.of_rd h).flat f'.1, RDs.flat t f'.2]
theorem flat_V {x : PyData} (f : flatP x = true) : flatV (toV x) = true := by
  cases x <;> first | rfl | cases f
theorem flats_V : ∀ {ds : List PyData}, ds.all flatP = true → (ds.map toV).all flatV = true
  | [], _ => rfl
  | d :: ds, f => by
    have f' : flatP d = true ∧ ds.all flatP = true := by simpa using f
    rw [List.map_cons, List.all_cons, flat_V f'.1, flats_V f'.2] <;> rfl
theorem intsF_map : ∀ {xs : List PyData} {l : List Int}, intsF xs = some l → xs = l.map PyData.int
  | [], l, h => by simp only [intsF, Option.some.injEq] at h; subst h; rfl
  | x :: xs, l, h => by
    cases x with
    | int i =>
      simp only [intsF] at h
      cases q : intsF xs with
      | none => rw [q] at h; cases h
      | some l' =>
        rw [q] at h
        have e : i :: l' = l := Option.some.inj h
        subst e
        rw [List.map_cons, ← intsF_map q]
    | _ => simp [intsF] at h
theorem RDs.ints : ∀ {l : List Int} {vs : List V}, RDs K w vs (l.map PyData.int) → vs = l.map V.int
  | [], _, .nil => rfl
  | i :: l, _, .cons h t => by
    cases h
    rw [List.map_cons, RDs.ints t]
theorem maxL_spec : ∀ (l : List Int) (m : Int), m ∈ l → (∀ y ∈ l, y ≤ m) → m = maxL l
  | [], m, h, _ => by simp at h
  | [a], m, h, _ => by simpa [maxL] using h
  | a :: b :: r, m, h, hb => by
    have key : ∀ (c : Int) (l : List Int), maxL (c :: l) ∈ (c :: l) ∧ ∀ y ∈ (c :: l), y ≤ maxL (c :: l) := by
      intro c l
      induction l generalizing c with
      | nil => simp [maxL]
      | cons d l ih =>
        obtain ⟨h1, h2⟩ := ih d
        simp only [maxL]
        split
        · rename_i hlt
          refine ⟨List.mem_cons_of_mem _ h1, fun y hy => ?_⟩
          rcases List.mem_cons.mp hy with rfl | hy
          · omega
          · exact h2 y hy
        · rename_i hge
          refine ⟨List.mem_cons_self, fun y hy => ?_⟩
          rcases List.mem_cons.mp hy with rfl | hy
          · omega
          · have := h2 y hy; omega
    obtain ⟨k1, k2⟩ := key a (b :: r)
    have := hb _ k1
    have := k2 m h
    omega
theorem minL_spec : ∀ (l : List Int) (m : Int), m ∈ l → (∀ y ∈ l, m ≤ y) → m = minL l
  | [], m, h, _ => by simp at h
  | [a], m, h, _ => by simpa [minL] using h
  | a :: b :: r, m, h, hb => by
    have key : ∀ (c : Int) (l : List Int), minL (c :: l) ∈ (c :: l) ∧ ∀ y ∈ (c :: l), minL (c :: l) ≤ y := by
      intro c l
      induction l generalizing c with
      | nil => simp [minL]
      | cons d l ih =>
        obtain ⟨h1, h2⟩ := ih d
        simp only [minL]
        split
        · rename_i hlt
          refine ⟨List.mem_cons_of_mem _ h1, fun y hy => ?_⟩
          rcases List.mem_cons.mp hy with rfl | hy
          · omega
          · exact h2 y hy
        · rename_i hge
          refine ⟨List.mem_cons_self, fun y hy => ?_⟩
          rcases List.mem_cons.mp hy with rfl | hy
          · omega
          · have := h2 y hy; omega
    obtain ⟨k1, k2⟩ := key a (b :: r)
    have := hb _ k1
    have := k2 m h
    omega
theorem VW.tru {x : PyData} {b : Bool} (h : VW K w r x) (e : truF x = some b) : TruV K r w.H b := by
  cases x with
  | none => cases h; cases e; rfl
  | bool c => cases h; cases e; rfl
  | int i => cases h; cases e; rfl
  | str s =>
    cases h
    simp only [truF] at e
    split at e
    · rename_i hz
      cases e
      exact ⟨by rw [sizeLine_eq]; exact hz, rfl⟩
    · cases e
  | list ds =>
    obtain ⟨a, vs, rfl, h, r⟩ := h
    cases e
    refine .inl ⟨vs, h.sq, ?_⟩
    cases r <;> rfl
  | tuple ds =>
    cases h with
    | tup h r =>
      cases e
      refine .inr (.inl ⟨_, h.sq, ?_⟩)
      cases r <;> rfl
  | dict _ => cases e
end

section
variable {X : Cx} {pins : List (Addr × Obj)} {σ : L2.St} {w : Wd} {s : Shared}
mutual
theorem RD.reads (I : Inv X pins σ w.H s) : ∀ (d : PyData) (v : V) (u : Value), RD X.K w v d → RelV v u → ∃ as, Reads s.heap u d as
  | .none, _, _, h, r => by
    cases h
    cases r
    exact ⟨_, Reads.none⟩
  | .bool b, _, _, h, r => by
    cases h
    cases r
    exact ⟨_, Reads.bool b⟩
  | .int i, _, _, h, r => by
    cases h
    obtain ⟨t, rfl⟩ := r
    exact ⟨_, Reads.int i t⟩
  | .str x, _, _, h, r => by
    cases h
    obtain ⟨t, rfl⟩ := r
    exact ⟨_, Reads.str x t⟩
  | .list ds, _, _, h, r => by
    cases h with
    | lst hs ha =>
      cases r
      obtain ⟨its, rv, ⟨o, n, ho, hc, _, hd⟩, _⟩ := I.list hs.sq
      obtain ⟨as, hr⟩ := RDs.reads I ds _ its ha rv
      exact ⟨_, Reads.list ho hc hd hr⟩
  | .tuple ds, _, _, h, r => by
    cases h with
    | tup hs ha =>
      cases r
      obtain ⟨its, rv, ⟨o, ho, hc, n, hd⟩, _⟩ := I.tuple hs.sq
      obtain ⟨as, hr⟩ := RDs.reads I ds _ its ha rv
      exact ⟨_, Reads.tuple ho hc hd hr⟩
  | .dict ps, _, _, h, r => by
    cases h with
    | dct e n rp =>
      cases r
      obtain ⟨_, _, vs, rel, o, es, ep, ho, hx, hd, _, pr, _⟩ := dk_of I.hok e
      obtain ⟨as, bs, r1, r2⟩ := RDp.reads I ps _ vs es.toList rp rel pr
      exact ⟨_, Reads.dict ho hx.1 hd r1 r2⟩
theorem RDs.reads (I : Inv X pins σ w.H s) : ∀ (ds : List PyData) (vs : List V) (us : List Value), RDs X.K w vs ds → Vals vs us → ∃ as, ReadsAll s.heap us ds as
  | [], _, _, h, r => by
    cases h
    cases r
    exact ⟨_, ReadsAll.nil⟩
  | d :: ds, _, _, h, r => by
    cases h with
    | cons h1 h2 =>
      cases r with
      | cons r1 r2 =>
        obtain ⟨as, q1⟩ := RD.reads I d _ _ h1 r1
        obtain ⟨bs, q2⟩ := RDs.reads I ds _ _ h2 r2
        exact ⟨_, ReadsAll.cons q1 q2⟩
theorem RDp.reads (I : Inv X pins σ w.H s) : ∀ (ps : List (PyData × PyData)) (kvs : List (Key × V)) (vs : List (Key × Value)) (es : List DictEntry), RDp X.K w kvs ps → KV kvs vs → Pairs (mixKind X.prog X.w) es vs →
    ∃ as bs, ReadsAll s.heap (es.map (·.key)) (ps.map (·.1)) as ∧ ReadsAll s.heap (es.map (·.val)) (ps.map (·.2)) bs
  | [], _, _, _, h, r, p => by
    cases h
    cases r
    cases p
    exact ⟨_, _, ReadsAll.nil, ReadsAll.nil⟩
  | (_, d) :: ps, _, _, _, h, r, p => by
    cases h with
    | @cons k _ _ _ _ h1 h2 =>
      cases r with
      | @cons _ kv _ _ r1 r2 =>
        cases p with
        | @cons en _ _ _ p1 p2 p3 =>
          obtain ⟨e1, r1⟩ := r1
          obtain ⟨as, q1⟩ := RD.reads I d _ _ h1 r1
          obtain ⟨bs, cs, q2, q3⟩ := RDp.reads I ps _ _ _ h2 r2 p3
          have hk : keyIs kv.1 en.key = true := p1
          have e1' : k = kv.1 := e1
          rw [← e1'] at hk
          have q4 : ∃ bs', Reads s.heap en.key (kD k) bs' := by
            rcases keyIs_shape hk with ⟨i, t, rfl, e5⟩ | ⟨z, t, rfl, e5⟩
            · rw [e5]; exact ⟨_, Reads.int i t⟩
            · rw [e5]; exact ⟨_, Reads.str z t⟩
          obtain ⟨ds, q4⟩ := q4
          rw [← p2] at q1
          exact ⟨_, _, ReadsAll.cons q4 q2, ReadsAll.cons q1 q3⟩
end
theorem VW.reads (I : Inv X pins σ w.H s) {d : PyData} {v : V} {u : Value} (h : VW X.K w v d) (r : RelV v u) : ∃ as, Reads s.heap u d as := by
  cases d with
  | list ds =>
    obtain ⟨a, vs, rfl, hl, ha⟩ := h
    cases r
    obtain ⟨its, rv, ⟨o, n, ho, hc, _, hd⟩, _⟩ := I.list hl.sq
    obtain ⟨as, hr⟩ := RDs.reads I ds _ its ha rv
    exact ⟨_, Reads.list ho hc hd hr⟩
  | none => exact RD.reads I _ _ _ h r
  | bool _ => exact RD.reads I _ _ _ h r
  | int _ => exact RD.reads I _ _ _ h r
  | str _ => exact RD.reads I _ _ _ h r
  | tuple _ => exact RD.reads I _ _ _ h r
  | dict _ => exact RD.reads I _ _ _ h r
end
/-- a new value z, wherever it is laid -/
def Ret (K : PySem.W.Frag) (w : Wd) (z : PyData) (Q : VK) : Prop := ∀ w', Grow w w' → w'.st = w.st → w'.ι = w.ι → COk K w' → ∀ r, RD K w' r z → Q r w'.H
section
variable {K : PySem.W.Frag} {w : Wd} {Q : VK}
theorem Ret.now (c : COk K w) {z : PyData} (q : Ret K w z Q) {r : V} (h : RD K w r z) : Q r w.H := q w (.refl w) rfl rfl c r h
theorem Ret.lst (c : COk K w) {ds : List PyData} {vs : List V} (q : Ret K w (.list ds) Q) (h : RDs K w vs ds) : ∀ p, w.H p = none → Q (.ref p) (upd w.H p (.lst vs)) := fun p hp =>
  q { w with H := upd w.H p (.lst vs) } (Grow.alloc c hp) rfl rfl (c.alloc hp) _ (.lst (SL.alloc c hp) (RDs.grow c (Grow.alloc c hp) ds vs h))
theorem Ret.tup (c : COk K w) {ds : List PyData} {vs : List V} (q : Ret K w (.tuple ds) Q) (h : RDs K w vs ds) : ∀ p, w.H p = none → Q (.ref p) (upd w.H p (.tup vs)) := fun p hp =>
  q { w with H := upd w.H p (.tup vs) } (Grow.alloc c hp) rfl rfl (c.alloc hp) _ (.tup (TL_.alloc c hp) (RDs.grow c (Grow.alloc c hp) ds vs h))
end
/-- the canonical reading of an operation on data -/
def rG (K : PySem.W.Frag) (g : PyData → PyData → Option PyData) : R2 := fun u v H Q => ∃ w x y z, w.H = H ∧ COk K w ∧ VW K w u x ∧ VW K w v y ∧ g x y = some z ∧ Ret K w z Q
def rG1 (K : PySem.W.Frag) (g : PyData → Option PyData) : V → Hp → VK → Prop := fun u H Q => ∃ w x z, w.H = H ∧ COk K w ∧ VW K w u x ∧ g x = some z ∧ Ret K w z Q

section
variable {X : Cx}
theorem some_if {p : Prop} [Decidable p] {α : Type} {a b : α} (h : (if p then some a else none) = some b) : p ∧ a = b := by
  split at h
  · exact ⟨by assumption, Option.some.inj h⟩
  · cases h
theorem Inv.rdl {pins : List (Addr × Obj)} {σ : L2.St} {H : Hp} {s : Shared} {l : Addr} {xs : List V} (I : Inv X pins σ H s) (h : LR X.K H l xs) :
    xs.length ≤ sizeLine ∧ ∃ (its : List Value) (n : Nat), Vals xs its ∧ s.heap.get? l = some { cls := .type "list", data := .seq its.toArray n } := by
  rcases h with h | ⟨its, n, h, hz, r⟩
  · exact h.ok I.hok
  · exact ⟨by rw [r.length]; exact hz, its, n, r, I.kIn l _ h⟩
theorem RDs.rep {K : PySem.W.Frag} {w : Wd} {vs : List V} {ds : List PyData} (h : RDs K w vs ds) : ∀ k : Nat, RDs K w (List.replicate k vs).flatten (List.replicate k ds).flatten
  | 0 => .nil
  | k + 1 => by
    rw [List.replicate_succ, List.replicate_succ, List.flatten_cons, List.flatten_cons]
    exact h.append (RDs.rep h k)
theorem cat_lists : OpR X (binaryOp .Add) (fun x y H Q => ∃ l b xs zs, x = .ref l ∧ y = .ref b ∧ LR X.K H l xs ∧ LR X.K H b zs ∧ xs.length + zs.length ≤ sizeLine ∧ ∀ p, H p = none → Q (.ref p) (upd H p (.lst (xs ++ zs)))) := by
  intro pins s σ H x y v u Q I rx ry h
  obtain ⟨l, b, xs, zs, rfl, rfl, hH, hB, hz, q⟩ := h
  cases rx
  cases ry
  obtain ⟨z, its, n, r, e⟩ := Inv.rdl I hH
  obtain ⟨z2, its2, n2, r2, e2⟩ := Inv.rdl I hB
  have k1 := r.length
  have k2 := r2.length
  refine PySem.P.add_list e e2 ?_ (by rw [List.size_toArray, List.size_toArray]; omega)
  have ea : its.toArray ++ its2.toArray = (its ++ its2).toArray := by simp
  rw [ea]
  exact ⟨.ref _, _, I.lnew (t' := s.toks) (r.append r2) (by rw [List.length_append]; omega), rfl, q _ I.fresh⟩
theorem rep_list : OpR X (binaryOp .Mult) (fun x y H Q => ∃ l k xs, x = .ref l ∧ y = .int k ∧ LR X.K H l xs ∧ -(2 ^ 63) ≤ k ∧ k < 2 ^ 63 ∧ xs.length * k.toNat ≤ sizeLine ∧ ∀ p, H p = none → Q (.ref p) (upd H p (.lst (List.replicate k.toNat xs).flatten))) := by
  intro pins s σ H x y v u Q I rx ry h
  obtain ⟨l, k, xs, rfl, rfl, hH, lo, hi, hz, q⟩ := h
  cases rx
  obtain ⟨t, rfl⟩ := ry
  obtain ⟨_, its, n, r, e⟩ := Inv.rdl I hH
  have hl : xs.length = its.length := r.length
  have sz : its.toArray.size * k.toNat ≤ sizeLine := by simpa [← hl] using hz
  have cap : ¬ its.toArray.size * k.toNat > (2 ^ 63 - 1) / 8 := fun z => by
    have : (sizeLine : Nat) ≤ (2 ^ 63 - 1) / 8 := by decide
    omega
  have f1 : ¬ (!Builtin.List.listFitsIndex k) = true := by simp [fitsIndex_both lo hi]
  have f2 : ¬ Builtin.List.listTooLong (its.toArray.size * k.toNat) = true := by rw [notLongL sz]; exact Bool.false_ne_true
  have made : List.foldl (fun x1 x2 => x1 ++ x2) #[] (List.replicate (if its.toArray.isEmpty = true then 0 else k.toNat) its.toArray) = (List.replicate k.toNat its).flatten.toArray := by
    have g : ∀ m : Nat, List.foldl (fun x1 x2 => x1 ++ x2) #[] (List.replicate m its.toArray) = (List.replicate m its).flatten.toArray := fun m => by simpa using foldl_rep its m []
    rw [g]
    cases its with
    | nil => simp
    | cons a r' => simp
  refine wpAny_binaryOp_repeat_ref (T := "list") (U := "int") (by decide) ⟨_, e, rfl⟩ (fun s' => typeIs_int s' k t) noFill_list_mul F.fills_int_mul F.slot_int_rmul repeat_list F.slot_int_index.lookup ?_
  refine call_meets F.slot_int_rmul (typeIs_int s k t) F.entry_int_rmul (F.args_int_rmul_2 _ _) (int___rmul___int_list k t l its.toArray n) ⟨e, rfl, ⟨_, e, rfl⟩, ?_⟩
  refine call_meets F.slot_list_mul ⟨_, e, rfl⟩ F.entry_list_mul (F.args_list_mul_2 _ _) (AutoListH.list___mul___list_int_3 l its.toArray n k t f1 cap f2) ⟨e, ?_⟩
  rw [made]
  exact ⟨.ref _, _, I.lnew (t' := s.toks) (r.rep k.toNat) (by rw [PyProof.Rows.lm_len_rep_flat, Nat.mul_comm]; exact hz), rfl, q _ I.fresh⟩
theorem op_powW : OpR X (binaryOp .Pow) (rI (fun i j => 0 ≤ j ∧ (Builtin.Int.intBits i : Int) * j ≤ 2 ^ 27) fun i j => .int (i ^ j.toNat)) := opI fun _ _ _ _ _ _ _ hc q => pow_int hc.1 hc.2 q
/-- binary operators -/
theorem op_all (op : Operator) : OpR X (binaryOp op) (rG X.K (opF op)) := by
  intro pins s σ H u v x y Q I rx ry h
  obtain ⟨w, a, b, z, rfl, c, va, vb, e, q⟩ := h
  cases op with
  | Add =>
    cases a with
    | int i =>
      cases b with
      | int j => cases va; cases vb; cases e; exact op_add pins s σ _ _ _ _ _ _ I rx ry ⟨i, j, rfl, rfl, q.now c (.int _)⟩
      | _ => cases e
    | str i =>
      cases b with
      | str j =>
        cases va; cases vb
        obtain ⟨hz, rfl⟩ := some_if e
        exact op_add_str pins s σ _ _ _ _ _ _ I rx ry ⟨i, j, rfl, rfl, by rw [sizeLine_eq]; exact hz, q.now c (.str _)⟩
      | _ => cases e
    | list ds =>
      cases b with
      | list es =>
        obtain ⟨p, vs, rfl, h1, r1⟩ := va
        obtain ⟨p', us, rfl, h2, r2⟩ := vb
        obtain ⟨hz, rfl⟩ := some_if e
        exact cat_lists pins s σ _ _ _ _ _ _ I rx ry ⟨p, p', vs, us, rfl, rfl, h1, h2, by rw [sizeLine_eq, r1.length, r2.length]; exact hz, q.lst c (r1.append r2)⟩
      | _ => cases e
    | tuple ds =>
      cases b with
      | tuple es =>
        cases va with
        | @tup a1 vs _ h1 r1 =>
          cases vb with
          | @tup a2 us _ h2 r2 =>
            obtain ⟨hz, rfl⟩ := some_if e
            refine op_catA pins s σ _ _ _ _ _ _ I rx ry ⟨a1, a2, vs, us, rfl, rfl, h1.sq, h2.sq, by rw [sizeLine_eq, r1.length, r2.length]; exact hz, ?_, ?_, fun _ _ => q.tup c (r1.append r2)⟩
            · intro e1
              have e2 : ds = [] := by
                have := r1.length
                rw [e1] at this
                exact List.length_eq_zero_iff.mp this.symm
              refine q.now c ?_
              rw [e2]
              exact .tup h2 r2
            · intro _ e1
              have e2 : es = [] := by
                have := r2.length
                rw [e1] at this
                exact List.length_eq_zero_iff.mp this.symm
              refine q.now c ?_
              rw [e2, List.append_nil]
              exact .tup h1 r1
      | _ => cases e
    | _ => cases e
  | Sub =>
    cases a with
    | int i =>
      cases b with
      | int j => cases va; cases vb; cases e; exact op_sub pins s σ _ _ _ _ _ _ I rx ry ⟨i, j, rfl, rfl, q.now c (.int _)⟩
      | _ => cases e
    | _ => cases e
  | Mult =>
    cases a with
    | int i =>
      cases b with
      | int j =>
        cases va; cases vb
        obtain ⟨hz, rfl⟩ := some_if e
        exact op_mulX pins s σ _ _ _ _ _ _ I rx ry ⟨i, j, rfl, rfl, hz, q.now c (.int _)⟩
      | _ => cases e
    | list ds =>
      cases b with
      | int k =>
        obtain ⟨p, vs, rfl, h1, r1⟩ := va
        cases vb
        obtain ⟨⟨k1, k2, k3⟩, rfl⟩ := some_if e
        exact rep_list pins s σ _ _ _ _ _ _ I rx ry ⟨p, k, vs, rfl, rfl, h1, k1, k2, by rw [sizeLine_eq, r1.length]; exact k3, q.lst c (r1.rep _)⟩
      | _ => cases e
    | _ => cases e
  | FloorDiv =>
    cases a with
    | int i =>
      cases b with
      | int j =>
        cases va; cases vb
        obtain ⟨hz, rfl⟩ := some_if e
        exact op_fdivW pins s σ _ _ _ _ _ _ I rx ry ⟨i, j, rfl, rfl, hz, q.now c (.int _)⟩
      | _ => cases e
    | _ => cases e
  | Mod =>
    cases a with
    | int i =>
      cases b with
      | int j =>
        cases va; cases vb
        obtain ⟨hz, rfl⟩ := some_if e
        exact op_mod pins s σ _ _ _ _ _ _ I rx ry ⟨i, j, rfl, rfl, hz, q.now c (.int _)⟩
      | _ => cases e
    | _ => cases e
  | Pow =>
    cases a with
    | int i =>
      cases b with
      | int j =>
        cases va; cases vb
        obtain ⟨hz, rfl⟩ := some_if e
        exact op_powW pins s σ _ _ _ _ _ _ I rx ry ⟨i, j, rfl, rfl, hz, q.now c (.int _)⟩
      | _ => cases e
    | _ => cases e
  | LShift =>
    cases a with
    | int i =>
      cases b with
      | int j =>
        cases va; cases vb
        obtain ⟨hz, rfl⟩ := some_if e
        exact op_shlW pins s σ _ _ _ _ _ _ I rx ry ⟨i, j, rfl, rfl, hz, q.now c (.int _)⟩
      | _ => cases e
    | _ => cases e
  | RShift =>
    cases a with
    | int i =>
      cases b with
      | int j =>
        cases va; cases vb
        obtain ⟨hz, rfl⟩ := some_if e
        exact op_shr pins s σ _ _ _ _ _ _ I rx ry ⟨i, j, rfl, rfl, hz, q.now c (.int _)⟩
      | _ => cases e
    | _ => cases e
  | BitAnd =>
    cases a with
    | int i =>
      cases b with
      | int j => cases va; cases vb; cases e; exact op_and pins s σ _ _ _ _ _ _ I rx ry ⟨i, j, rfl, rfl, q.now c (.int _)⟩
      | _ => cases e
    | _ => cases e
  | BitOr =>
    cases a with
    | int i =>
      cases b with
      | int j => cases va; cases vb; cases e; exact op_or pins s σ _ _ _ _ _ _ I rx ry ⟨i, j, rfl, rfl, q.now c (.int _)⟩
      | _ => cases e
    | _ => cases e
  | BitXor =>
    cases a with
    | int i =>
      cases b with
      | int j => cases va; cases vb; cases e; exact op_xor pins s σ _ _ _ _ _ _ I rx ry ⟨i, j, rfl, rfl, q.now c (.int _)⟩
      | _ => cases e
    | _ => cases e
  | MatMult => cases a <;> cases e
  | Div => cases a <;> cases e

/-- comparisons -/
theorem lt_all {pins : List (Addr × Obj)} {s : Shared} {σ : L2.St} {H : Hp} {u v : V} {x y : Value} (hu : X.A.units + 65 < cLine) (I : Inv X pins σ H s) (rx : RelV u x) (ry : RelV v y) {a b : PyData} {w : Wd} (eH : w.H = H) (da : VW X.K w u a) (db : VW X.K w v b) (h : ltOk a b = true) :
    ∃ as bs, Reads s.heap x a as ∧ Reads s.heap y b bs ∧ PySem.W.alike a b = true ∧ a ≠ .none ∧ X.A.units + min a.depth b.depth < cLine := by
  subst eH
  obtain ⟨as, ra⟩ := da.reads I rx
  obtain ⟨bs, rb⟩ := db.reads I ry
  unfold ltOk at h
  rw [Bool.and_eq_true, Bool.and_eq_true] at h
  obtain ⟨⟨h1, h2⟩, h3⟩ := h
  refine ⟨as, bs, ra, rb, h1, ?_, ?_⟩
  · rintro rfl
    cases h2
  · have := of_decide_eq_true h3
    omega
theorem cmp_all (hu : X.A.units + 65 < cLine) (op : CmpOp) : OpR X (compareOp op) (rG X.K fun x y => (cmpF op x y).map .bool) := by
  intro pins s σ H u v x y Q I rx ry h
  obtain ⟨w, a, b, z, rfl, c, va, vb, e0, q⟩ := h
  obtain ⟨k, e, rfl⟩ := Option.map_eq_some_iff.mp e0
  clear e0
  have hq : Q (.bl k) w.H := q.now c (.bl _)
  have isin : ∀ (neg : Bool) (ys : List PyData) (k' : Bool), inF a ys = some k' → ∀ (p : Addr) (vs : List V), v = .ref p → (SqL X.K w.H p vs ∨ SqT X.K w.H p vs) → RDs X.K w vs ys →
      ∃ p xs, v = .ref p ∧ (SqL X.K w.H p xs ∨ SqT X.K w.H p xs) ∧ flatV u = true ∧ xs.all flatV = true ∧ (if neg then !inV u xs else inV u xs) = (if neg then !k' else k') := by
    intro neg ys k' hin p vs ev hs hr
    obtain ⟨⟨f1, f2⟩, rfl⟩ := some_if hin
    have e1 := va.flat f1
    have e2 := hr.flat f2
    refine ⟨p, vs, ev, hs, by rw [e1]; exact flat_V f1, by rw [e2]; exact flats_V f2, by rw [e1, e2]⟩
  cases op with
  | Eq =>
    obtain ⟨h | ⟨h1, h2⟩, rfl⟩ := some_if e
    · cases a with
      | str i => cases b with
        | str j => cases va; cases vb; exact op_eq pins s σ _ _ _ _ _ _ I rx ry ⟨rfl, by
            rw [show decide ((V.str i) = V.str j) = PyData.eqv (.str i) (.str j) by rw [PyData.eqv, Bool.eq_iff_iff]; simp]
            exact hq⟩
        | _ => cases h
      | _ => cases h
    · obtain ⟨as, r1⟩ := va.reads I rx
      obtain ⟨bs, r2⟩ := vb.reads I ry
      exact SeqAt.compareEq_shaped r1 r2 h1 h2 (by omega) ⟨.bl _, w.H, I, rfl, hq⟩
  | NotEq =>
    obtain ⟨h | ⟨h1, h2⟩, rfl⟩ := some_if e
    · cases a with
      | str i => cases b with
        | str j => cases va; cases vb; exact op_ne pins s σ _ _ _ _ _ _ I rx ry ⟨rfl, by
            rw [show decide ((V.str i) = V.str j) = PyData.eqv (.str i) (.str j) by rw [PyData.eqv, Bool.eq_iff_iff]; simp]
            exact hq⟩
        | _ => cases h
      | _ => cases h
    · obtain ⟨as, r1⟩ := va.reads I rx
      obtain ⟨bs, r2⟩ := vb.reads I ry
      exact SeqAt.compareNe_shaped r1 r2 h1 h2 (by omega) ⟨.bl _, w.H, I, rfl, hq⟩
  | Lt =>
    have gen : (if ltOk a b = true then some (PySem.W.dataLt a b) else none) = some k → wpAny (model X.prog X.w) X.A (compareOp .Lt x y) (EP X pins σ Q) X.xe s := fun e' => by
      obtain ⟨h1, rfl⟩ := some_if e'
      obtain ⟨as, bs, ra, rb, k1, k2, k3⟩ := lt_all hu I rx ry rfl va vb h1
      exact PySem.W.lt_data ra rb k1 k2 k3 ⟨.bl _, w.H, I, rfl, hq⟩
    cases a with
    | int i =>
      cases b with
      | int j => cases va; cases vb; cases e; exact op_lt pins s σ _ _ _ _ _ _ I rx ry ⟨i, j, rfl, rfl, hq⟩
      | _ => exact gen e
    | _ => exact gen e
  | LtE =>
    have gen : (if ltOk a b = true then some (!PySem.W.dataLt b a) else none) = some k → wpAny (model X.prog X.w) X.A (compareOp .LtE x y) (EP X pins σ Q) X.xe s := fun e' => by
      obtain ⟨h1, rfl⟩ := some_if e'
      obtain ⟨as, bs, ra, rb, k1, k2, k3⟩ := lt_all hu I rx ry rfl va vb h1
      exact PySem.W.le_data ra rb k1 k2 k3 ⟨.bl _, w.H, I, rfl, hq⟩
    cases a with
    | int i =>
      cases b with
      | int j => cases va; cases vb; cases e; exact op_le pins s σ _ _ _ _ _ _ I rx ry ⟨i, j, rfl, rfl, hq⟩
      | _ => exact gen e
    | _ => exact gen e
  | Gt =>
    have gen : (if ltOk a b = true then some (PySem.W.dataLt b a) else none) = some k → wpAny (model X.prog X.w) X.A (compareOp .Gt x y) (EP X pins σ Q) X.xe s := fun e' => by
      obtain ⟨h1, rfl⟩ := some_if e'
      obtain ⟨as, bs, ra, rb, k1, k2, k3⟩ := lt_all hu I rx ry rfl va vb h1
      exact PySem.W.gt_data ra rb k1 k2 k3 ⟨.bl _, w.H, I, rfl, hq⟩
    cases a with
    | int i =>
      cases b with
      | int j => cases va; cases vb; cases e; exact op_gt pins s σ _ _ _ _ _ _ I rx ry ⟨i, j, rfl, rfl, hq⟩
      | _ => exact gen e
    | _ => exact gen e
  | GtE =>
    have gen : (if ltOk a b = true then some (!PySem.W.dataLt a b) else none) = some k → wpAny (model X.prog X.w) X.A (compareOp .GtE x y) (EP X pins σ Q) X.xe s := fun e' => by
      obtain ⟨h1, rfl⟩ := some_if e'
      obtain ⟨as, bs, ra, rb, k1, k2, k3⟩ := lt_all hu I rx ry rfl va vb h1
      exact PySem.W.ge_data ra rb k1 k2 k3 ⟨.bl _, w.H, I, rfl, hq⟩
    cases a with
    | int i =>
      cases b with
      | int j => cases va; cases vb; cases e; exact op_ge pins s σ _ _ _ _ _ _ I rx ry ⟨i, j, rfl, rfl, hq⟩
      | _ => exact gen e
    | _ => exact gen e
  | In =>
    cases b with
    | list ys =>
      have e' : inL a ys = some k := e
      unfold inL at e'
      split at e'
      · obtain ⟨p, vs, ev, h1, r1⟩ := vb
        obtain ⟨p', xs, e1, e2, e3, e4, e5⟩ := isin false ys k e' p vs ev (.inl h1.sq) r1
        exact op_in_seq pins s σ _ _ _ _ _ _ I rx ry ⟨p', xs, e1, e2, e3, e4, by rw [e5]; exact hq⟩
      · obtain ⟨⟨f1, f2⟩, rfl⟩ := some_if e'
        obtain ⟨as, r1⟩ := va.reads I rx
        obtain ⟨bs, r2⟩ := VW.reads I (d := .list ys) vb ry
        exact SeqAt.in_list_reads r2 r1 (SeqAt.canLay_of_shaped f2) (SeqAt.canLay_of_shaped f1) (room_in_shaped f1 hu) ⟨.bl _, w.H, I, rfl, hq⟩
    | tuple ys =>
      cases vb with
      | tup h1 r1 =>
        obtain ⟨p', xs, e1, e2, e3, e4, e5⟩ := isin false ys k e _ _ rfl (.inr h1.sq) r1
        exact op_in_seq pins s σ _ _ _ _ _ _ I rx ry ⟨p', xs, e1, e2, e3, e4, by rw [e5]; exact hq⟩
    | _ => cases e
  | NotIn =>
    cases b with
    | list ys =>
      obtain ⟨k', e9, rfl⟩ := Option.map_eq_some_iff.mp (show (inL a ys).map (fun b => !b) = some k from e)
      unfold inL at e9
      split at e9
      · obtain ⟨p, vs, ev, h1, r1⟩ := vb
        obtain ⟨p', xs, e1, e2, e3, e4, e5⟩ := isin true ys k' e9 p vs ev (.inl h1.sq) r1
        exact op_notIn_seq pins s σ _ _ _ _ _ _ I rx ry ⟨p', xs, e1, e2, e3, e4, by rw [e5]; exact hq⟩
      · obtain ⟨⟨f1, f2⟩, rfl⟩ := some_if e9
        obtain ⟨as, r1⟩ := va.reads I rx
        obtain ⟨bs, r2⟩ := VW.reads I (d := .list ys) vb ry
        exact SeqAt.notIn_list_reads r2 r1 (SeqAt.canLay_of_shaped f2) (SeqAt.canLay_of_shaped f1) (room_in_shaped f1 hu) ⟨.bl _, w.H, I, rfl, hq⟩
    | tuple ys =>
      cases vb with
      | tup h1 r1 =>
        obtain ⟨k', e9, rfl⟩ := Option.map_eq_some_iff.mp (show (inF a ys).map (fun b => !b) = some k from e)
        obtain ⟨p', xs, e1, e2, e3, e4, e5⟩ := isin true ys k' e9 _ _ rfl (.inr h1.sq) r1
        exact op_notIn_seq pins s σ _ _ _ _ _ _ I rx ry ⟨p', xs, e1, e2, e3, e4, by rw [e5]; exact hq⟩
    | _ => cases e
  | Is => cases a <;> cases e
  | IsNot => cases a <;> cases e
/-- the same where a new list is kept as a cell -/
def rGc (K : PySem.W.Frag) (g : PyData → PyData → Option PyData) : R2 := fun u v H Q => ∃ w x y ds, w.H = H ∧ COk K w ∧ VW K w u x ∧ VW K w v y ∧ g x y = some (.list ds) ∧ ∀ p vs, w.H p = none → RDs K w vs ds → Q (.ref p) (upd w.H p (.lst vs))
theorem opc_nat {op : Operator} {a b : PyData} {ds : List PyData} (e : opF op a b = some (.list ds)) : (∃ xs ys, op = .Add ∧ a = .list xs ∧ b = .list ys) ∨ ∃ xs k, op = .Mult ∧ a = .list xs ∧ b = .int k := by
  unfold opF at e
  split at e <;> first | (cases e; done) | (left; exact ⟨_, _, rfl, rfl, rfl⟩) | (right; exact ⟨_, _, rfl, rfl, rfl⟩) | (split at e <;> cases e)
theorem op_allc (op : Operator) : OpR X (binaryOp op) (rGc X.K (opF op)) := by
  intro pins s σ H u v x y Q I rx ry h
  obtain ⟨w, a, b, zs, rfl, c, va, vb, e, q⟩ := h
  rcases opc_nat e with ⟨ds, es, rfl, rfl, rfl⟩ | ⟨ds, k, rfl, rfl, rfl⟩
  · obtain ⟨p, vs, rfl, h1, r1⟩ := va
    obtain ⟨p', us, rfl, h2, r2⟩ := vb
    obtain ⟨hz, e2⟩ := some_if e
    cases e2
    exact cat_lists pins s σ _ _ _ _ _ _ I rx ry ⟨p, p', vs, us, rfl, rfl, h1, h2, by rw [sizeLine_eq, r1.length, r2.length]; exact hz, fun p0 hp => q p0 _ hp (r1.append r2)⟩
  · obtain ⟨p, vs, rfl, h1, r1⟩ := va
    cases vb
    obtain ⟨⟨k1, k2, k3⟩, e2⟩ := some_if e
    cases e2
    exact rep_list pins s σ _ _ _ _ _ _ I rx ry ⟨p, k, vs, rfl, rfl, h1, k1, k2, by rw [sizeLine_eq, r1.length]; exact k3, fun p0 hp => q p0 _ hp (r1.rep _)⟩
theorem un_all (op : UnaryOp) (hop : op ≠ .Not) : UnR X (unaryOp op) (rG1 X.K (unF op)) := by
  intro pins s σ H u x Q I rx h
  obtain ⟨w, a, z, rfl, c, va, e, q⟩ := h
  cases op with
  | USub =>
    cases a with
    | int i => cases va; cases e; exact un_neg pins s σ _ _ _ _ I rx ⟨i, rfl, q.now c (.int _)⟩
    | _ => cases e
  | Not => exact absurd rfl hop
  | _ => cases a <;> cases e
/-- a[i] -/
theorem ix_all : IxR X (rG X.K idxF) := by
  intro value slice pins s σ H u v x y Q I rx ry h hs
  obtain ⟨w, a, b, z, rfl, c, va, vb, e, q⟩ := h
  cases b with
  | int i =>
    cases vb
    cases a with
    | list ds =>
      obtain ⟨p, vs, rfl, h1, r1⟩ := va
      have e' : (ixN ds.length i).bind (fun j => ds[j]?) = some z := e
      obtain ⟨j, e1, e2⟩ := Option.bind_eq_some_iff.mp e'
      obtain ⟨vz, e3, r3⟩ := r1.get e2
      exact ix_list value slice pins s σ _ _ _ _ _ _ I rx ry ⟨p, vs, i, vz, rfl, rfl, h1.sq, by unfold atI; rw [r1.length, e1]; exact e3, q.now c r3⟩ hs
    | tuple ds =>
      cases va with
      | tup h1 r1 =>
        have e' : (ixN ds.length i).bind (fun j => ds[j]?) = some z := e
        obtain ⟨j, e1, e2⟩ := Option.bind_eq_some_iff.mp e'
        obtain ⟨vz, e3, r3⟩ := r1.get e2
        exact ix_tup value slice pins s σ _ _ _ _ _ _ I rx ry ⟨_, _, i, vz, rfl, rfl, h1.sq, by unfold atI; rw [r1.length, e1]; exact e3, q.now c r3⟩ hs
    | str t =>
      cases va
      simp only [idxF] at e
      split at e
      · rename_i hz
        obtain ⟨k, e1, rfl⟩ := Option.map_eq_some_iff.mp e
        exact ix_str value slice pins s σ _ _ _ _ _ _ I rx ry ⟨t, i, k, rfl, rfl, by rw [sizeLine_eq]; exact hz, e1, q.now c (.str _)⟩ hs
      · cases e
    | _ => cases e
  | _ => cases a <;> cases e
theorem RDs.cut {K : PySem.W.Frag} {w : Wd} {vs : List V} {ds : List PyData} (h : RDs K w vs ds) (lo hi : Option Int) : RDs K w (cutV vs lo hi) (cutP ds lo hi) := by
  unfold cutV cutP
  rw [h.length]
  exact (h.drop _).take _
/-- a[lo:hi] -/
def rGs (K : PySem.W.Frag) : V → Option Int → Option Int → Hp → VK → Prop := fun u lo hi H Q => ∃ w x z, w.H = H ∧ COk K w ∧ VW K w u x ∧ slcF x lo hi = some z ∧ Ret K w z Q
theorem sl_all : SlR X (rGs X.K) := by
  intro pins s σ H u x vl vu lo hi sl Q I rx h0 h1 h2 h
  obtain ⟨w, a, z, rfl, c, va, e, q⟩ := h
  cases a with
  | list ds =>
    obtain ⟨p, vs, rfl, h3, r3⟩ := va
    cases e
    exact sl_list pins s σ _ _ x vl vu lo hi sl _ I rx h0 h1 h2 ⟨p, vs, rfl, h3.sq, q.lst c (r3.cut lo hi)⟩
  | tuple ds =>
    cases va with
    | @tup p vs _ h3 r3 =>
      cases e
      refine sl_tupA pins s σ _ _ x vl vu lo hi sl _ I rx h0 h1 h2 ⟨p, vs, rfl, h3.sq, fun ⟨k1, k2⟩ => ?_, fun _ => q.tup c (r3.cut lo hi)⟩
      refine q.now c ?_
      have e1 : cutP ds lo hi = ds := by
        unfold cutP
        rw [← r3.length, k1, k2, List.drop_zero, Nat.sub_zero, r3.length, List.take_length]
      rw [e1]
      exact .tup h3 r3
  | _ => cases e
/-- built-in functions of data -/
inductive VWs (K : PySem.W.Frag) (w : Wd) : List V → List PyData → Prop
  | nil : VWs K w [] []
  | cons {v : V} {vs : List V} {d : PyData} {ds : List PyData} : VW K w v d → VWs K w vs ds → VWs K w (v :: vs) (d :: ds)
theorem RVs.views {K : PySem.W.Frag} {w : Wd} (c : COk K w) : ∀ {vs : List V} {es : List EV} {ds : List PyData}, RVs K w vs es → looks w.st es = some ds → VWs K w vs ds
  | _, _, _, .nil, h => by cases h; exact .nil
  | _, e :: es, ds, .cons h t, hl => by
    simp only [looks] at hl
    obtain ⟨x, e1, e2⟩ := Option.bind_eq_some_iff.mp hl
    obtain ⟨xs, e3, rfl⟩ := Option.map_eq_some_iff.mp e2
    exact .cons (h.view c e1) (RVs.views c t e3)
def rGb (K : PySem.W.Frag) (b : Blt) : List V → Hp → VK → Prop := fun us H Q => ∃ w xs z, w.H = H ∧ COk K w ∧ VWs K w us xs ∧ bltF b xs = some z ∧ Ret K w z Q
theorem ty_view {K : PySem.W.Frag} {w : Wd} {r : V} {x : PyData} (h : VW K w r x) : TyX K w.H r (.type (tyF x)) := by
  cases x with
  | none => cases h; exact .base .non
  | bool b => cases h; exact .base (.bl b)
  | int i => cases h; exact .base (.int i)
  | str z => cases h; exact .base (.str z)
  | list ds =>
    obtain ⟨a, vs, rfl, h1, _⟩ := h
    rcases h1 with (h1 | ⟨o, h1⟩) | ⟨its, n, h1, _⟩
    · exact .base (.lst h1)
    · exact .base (.frz h1)
    · exact .kList h1 rfl
  | tuple ds =>
    cases h with
    | tup h1 _ =>
      rcases h1.sq with (h1 | ⟨o, h1⟩) | ⟨o, its, n, h1, h2, _⟩
      · exact .base (.tup h1)
      · exact .fTuple h1
      · exact .kTuple h1 h2
  | dict _ =>
    cases h with
    | dct e _ _ => exact .base (.dK e)
theorem repr_all (hg : X.A.guards = some []) (hu : X.A.units + 128 < cLine) : CallR X (.builtin "repr") (fun us H Q => ∃ w x, w.H = H ∧ COk X.K w ∧ (∃ r, us = [r] ∧ VW X.K w r x) ∧ PyData.showable x = true ∧ SeqAt.shaped x = true ∧ (PyData.shown x).length ≤ sizeLine ∧ Q (.str (PyData.shown x)) H) := by
  intro pins s σ H us vs Q I rv h
  obtain ⟨w, x, rfl, c, ⟨r, rfl, va⟩, hs, hsh, hz, q⟩ := h
  obtain ⟨u, rfl, ru⟩ := vals1 rv
  obtain ⟨as, hr⟩ := va.reads I ru
  have hcl := SeqAt.canLay_of_shaped hsh
  have hdp := SeqAt.depth_of_shaped hsh
  have nod : x.hasDict = true → sysModules ∉ as := PyData.noDict_hsm (PyData.hasDict_of_canLay x hcl)
  have fin : ∀ {d : PyData} {a : Addr}, Reads s.heap (.ref a) d as → d.showable = true → (d.hasDict = true → sysModules ∉ as) → d.depth ≤ 64 → (PyData.shown d).length ≤ sizeLine → Q (.str (PyData.shown d)) w.H →
      wpAny (model X.prog X.w) X.A (call (.builtin "repr") [.ref a]) (EP X pins σ Q) X.xe s := fun hr hs nod hdp hz q =>
    repr_of_reads' hr hs nod hg (by omega) (fun _ _ e => e) (fun h' u tk k => ⟨.str _, w.H, I.kept k, ⟨_, rfl⟩, q⟩) hz
  cases hr with
  | none => exact PySem.P.repr_of_none ⟨.str _, w.H, I.tok _, ⟨_, rfl⟩, q⟩
  | bool b => exact PySem.P.repr_of_bool ⟨.str _, w.H, I.tok _, ⟨_, rfl⟩, q⟩
  | int i t => exact PySem.P.repr_of_int (of_decide_eq_true hs) ⟨.str _, w.H, I.tok _, ⟨_, rfl⟩, q⟩
  | str z t => exact PySem.P.repr_of_str ⟨.str _, w.H, I.tok _, ⟨_, rfl⟩, q⟩ hz
  | list h1 h2 h3 h4 => exact fin (.list h1 h2 h3 h4) hs nod hdp hz q
  | tuple h1 h2 h3 h4 => exact fin (.tuple h1 h2 h3 h4) hs nod hdp hz q
  | dict h1 h2 h3 h4 h5 => simp [PyData.canLay0] at hcl
theorem VW.list_tracked {w : Wd} {r : V} {ds : List PyData} (h : VW X.K w r (.list ds)) : ∃ p vs, r = .ref p ∧ SqL X.K w.H p vs ∧ RDs X.K w vs ds := by
  obtain ⟨p, vs, rfl, h1, h2⟩ := h
  exact ⟨p, vs, rfl, h1.sq, h2⟩
theorem blt_len : CallR X (.builtin "len") (rGb X.K .len) := by
  intro pins s σ H us vs Q I rv h
  obtain ⟨w, xs, z, rfl, c, va, e, q⟩ := h
  cases va with
  | nil => cases e
  | @cons r _ x _ h t =>
    cases t with
    | cons _ _ => cases x <;> cases e
    | nil =>
      cases x with
      | list ds =>
        obtain ⟨p, ys, rfl, h1, h2⟩ := VW.list_tracked h
        cases e
        exact call_len pins s σ _ _ _ _ I rv ⟨_, _, rfl, .inl ⟨ys, h1, rfl⟩, by rw [h2.length]; exact q.now c (.int _)⟩
      | tuple ds =>
        cases h with
        | tup h1 h2 =>
          cases e
          exact call_len pins s σ _ _ _ _ I rv ⟨_, _, rfl, .inr ⟨_, h1.sq, rfl⟩, by rw [h2.length]; exact q.now c (.int _)⟩
      | str y =>
        cases h
        obtain ⟨hz, rfl⟩ := some_if e
        exact call_len pins s σ _ _ _ _ I rv ⟨_, y.length, rfl, ⟨by rw [sizeLine_eq]; exact hz, rfl⟩, q.now c (.int _)⟩
      | _ => cases e
theorem blt_abs : CallR X (.builtin "abs") (rGb X.K .abs) := by
  intro pins s σ H us vs Q I rv h
  obtain ⟨w, xs, z, rfl, c, va, e, q⟩ := h
  cases va with
  | nil => cases e
  | @cons r _ x _ h t =>
    cases t with
    | cons _ _ => cases x <;> cases e
    | nil =>
      cases x with
      | int i => cases h; cases e; exact call_abs pins s σ _ _ _ _ I rv ⟨i, rfl, q.now c (.int _)⟩
      | _ => cases e
theorem blt_int : CallR X (.type "int") (rGb X.K .int) := by
  intro pins s σ H us vs Q I rv h
  obtain ⟨w, xs, z, rfl, c, va, e, q⟩ := h
  cases va with
  | nil => cases e
  | @cons r _ x _ h t =>
    cases t with
    | cons _ _ => cases x <;> cases e
    | nil =>
      cases x with
      | int i => cases h; cases e; exact call_int1 pins s σ _ _ _ _ I rv (.inl ⟨i, rfl, q.now c (.int _)⟩)
      | bool i => cases h; cases e; exact call_int1 pins s σ _ _ _ _ I rv (.inr ⟨i, rfl, q.now c (.int _)⟩)
      | _ => cases e
theorem blt_bool : CallR X (.type "bool") (rGb X.K .bool) := by
  intro pins s σ H us vs Q I rv h
  obtain ⟨w, xs, z, rfl, c, va, e, q⟩ := h
  cases va with
  | nil => cases e
  | @cons r _ x _ h t =>
    cases t with
    | cons _ _ => cases x <;> cases e
    | nil =>
      cases x with
      | int i => cases h; cases e; exact call_bool1 pins s σ _ _ _ _ I rv (.inl ⟨i, rfl, q.now c (.bl _)⟩)
      | bool i => cases h; cases e; exact call_bool1 pins s σ _ _ _ _ I rv (.inr ⟨i, rfl, q.now c (.bl _)⟩)
      | _ => cases e
theorem blt_repr (hg : X.A.guards = some []) (hu : X.A.units + 128 < cLine) : CallR X (.builtin "repr") (rGb X.K .repr) := by
  intro pins s σ H us vs Q I rv h
  obtain ⟨w, xs, z, rfl, c, va, e, q⟩ := h
  cases va with
  | nil => cases e
  | @cons r _ x _ h t =>
    cases t with
    | cons _ _ => cases x <;> cases e
    | nil =>
      have e' : (if PyData.showable x = true ∧ SeqAt.shaped x = true ∧ (PyData.shown x).length ≤ line then some (PyData.str (PyData.shown x)) else none) = some z := by cases x <;> exact e
      obtain ⟨⟨h1, h2, h3⟩, rfl⟩ := some_if e'
      exact repr_all hg hu pins s σ _ _ _ _ I rv ⟨w, x, rfl, c, ⟨r, rfl, h⟩, h1, h2, by rw [sizeLine_eq]; exact h3, q.now c (.str _)⟩
theorem blt_reprd (hg : X.A.guards = some []) (hu : X.A.units + 128 < cLine) : CallR X (.builtin "repr") (rGb X.K .reprd) := by
  intro pins s σ H us vs Q I rv h
  obtain ⟨w, xs, z, rfl, c, va, e, q⟩ := h
  cases va with
  | nil => cases e
  | @cons r _ x _ h t =>
    cases t with
    | cons _ _ => cases x <;> cases e
    | nil =>
      by_cases d : x = .dict []
      · subst d
        have e' : some (PyData.str (PyData.shown (.dict []))) = some z := e
        cases e'
        obtain ⟨u, rfl, ru⟩ := vals1 rv
        cases h with
        | @dct a _ _ e n rp =>
          cases rp
          cases ru
          obtain ⟨_, hne, vs, rel, o, es, ep, ho, hx, hd, _, pr, _⟩ := dk_of I.hok e
          cases rel
          have hes : es.toList = [] := by
            cases q9 : es.toList with
            | nil => rfl
            | cons b bs => rw [q9] at pr; cases pr
          have hr : Reads s.heap (.ref a) (.dict []) (a :: [] ++ []) := Reads.dict ho hx.1 hd (by rw [hes]; exact ReadsAll.nil) (by rw [hes]; exact ReadsAll.nil)
          have hsz : (PyData.shown (.dict [])).length ≤ sizeLine := by decide +kernel
          exact repr_of_reads' hr (by decide +kernel) (fun _ hm => by
            rcases List.mem_cons.mp hm with hm | hm
            · rw [← hm] at hne; simp at hne
            · exact nomatch hm) hg (by show X.A.units + _ < cLine; have : (PyData.dict []).depth ≤ 64 := by decide +kernel
                                       omega) (fun _ _ e => e) (fun h' u tk k => ⟨.str _, w.H, I.kept k, ⟨_, rfl⟩, q.now c (.str _)⟩) hsz
      · have e' : (if PyData.showable x = true ∧ SeqAt.shaped x = true ∧ (PyData.shown x).length ≤ line then some (PyData.str (PyData.shown x)) else none) = some z := by
          cases x with
          | dict ps => cases ps with
            | nil => exact absurd rfl d
            | cons _ _ => exact e
          | _ => exact e
        obtain ⟨⟨h1, h2, h3⟩, rfl⟩ := some_if e'
        exact repr_all hg hu pins s σ _ _ _ _ I rv ⟨w, x, rfl, c, ⟨r, rfl, h⟩, h1, h2, by rw [sizeLine_eq]; exact h3, q.now c (.str _)⟩
theorem ints_tracked {w : Wd} {r : V} {ds : List PyData} {l : List Int} (h : VW X.K w r (.list ds)) (e : intsF ds = some l) : ∃ p, r = .ref p ∧ SqL X.K w.H p (l.map V.int) := by
  obtain ⟨p, vs, rfl, h1, h2⟩ := VW.list_tracked h
  rw [intsF_map e] at h2
  rw [h2.ints] at h1
  exact ⟨p, rfl, h1⟩
theorem blt_sum (hc : X.calm = true) : CallR X (.builtin "sum") (rGb X.K .sum) := by
  intro pins s σ H us vs Q I rv h
  obtain ⟨w, xs, z, rfl, c, va, e, q⟩ := h
  cases va with
  | nil => cases e
  | @cons r _ x _ h t =>
    cases t with
    | cons _ _ => cases x <;> cases e
    | nil =>
      cases x with
      | list ds =>
        obtain ⟨l, e1, rfl⟩ := Option.map_eq_some_iff.mp (show (intsF ds).map (fun l => PyData.int l.sum) = some z from e)
        obtain ⟨p, rfl, h1⟩ := ints_tracked h e1
        exact cr_sum hc pins s σ _ _ _ _ I rv ⟨p, l, rfl, h1, q.now c (.int _)⟩
      | _ => cases e
theorem blt_max (hc : X.calm = true) : CallR X (.builtin "max") (rGb X.K .max) := by
  intro pins s σ H us vs Q I rv h
  obtain ⟨w, xs, z, rfl, c, va, e, q⟩ := h
  cases va with
  | nil => cases e
  | @cons r _ x _ h t =>
    cases t with
    | @cons r2 _ x2 _ h2 t2 =>
      cases x with
      | int i =>
        cases x2 with
        | int j =>
          cases t2 with
          | nil => cases h; cases h2; cases e; exact call_max2 hc pins s σ _ _ _ _ I rv ⟨i, j, rfl, q.now c (.int _)⟩
          | cons _ _ => cases e
        | _ => cases t2 <;> cases e
      | _ => cases x2 <;> cases t2 <;> cases e
    | nil =>
      cases x with
      | list ds =>
        obtain ⟨l, e1, e2⟩ := Option.bind_eq_some_iff.mp (show (intsF ds).bind (fun l => if 0 < l.length then some (PyData.int (maxL l)) else none) = some z from e)
        obtain ⟨h0, rfl⟩ := some_if e2
        obtain ⟨p, rfl, h1⟩ := ints_tracked h e1
        exact cr_max hc pins s σ _ _ _ _ I rv ⟨p, l, rfl, h1, h0, fun m hm hl => by rw [maxL_spec l m hm hl]; exact q.now c (.int _)⟩
      | _ => cases e
theorem blt_min (hc : X.calm = true) : CallR X (.builtin "min") (rGb X.K .min) := by
  intro pins s σ H us vs Q I rv h
  obtain ⟨w, xs, z, rfl, c, va, e, q⟩ := h
  cases va with
  | nil => cases e
  | @cons r _ x _ h t =>
    cases t with
    | @cons r2 _ x2 _ h2 t2 =>
      cases x with
      | int i =>
        cases x2 with
        | int j =>
          cases t2 with
          | nil => cases h; cases h2; cases e; exact call_min2 hc pins s σ _ _ _ _ I rv ⟨i, j, rfl, q.now c (.int _)⟩
          | cons _ _ => cases e
        | _ => cases t2 <;> cases e
      | _ => cases x2 <;> cases t2 <;> cases e
    | nil =>
      cases x with
      | list ds =>
        obtain ⟨l, e1, e2⟩ := Option.bind_eq_some_iff.mp (show (intsF ds).bind (fun l => if 0 < l.length then some (PyData.int (minL l)) else none) = some z from e)
        obtain ⟨h0, rfl⟩ := some_if e2
        obtain ⟨p, rfl, h1⟩ := ints_tracked h e1
        exact cr_min hc pins s σ _ _ _ _ I rv ⟨p, l, rfl, h1, h0, fun m hm hl => by rw [minL_spec l m hm hl]; exact q.now c (.int _)⟩
      | _ => cases e
theorem blt_list : CallR X (.type "list") (rGb X.K .list) := by
  intro pins s σ H us vs Q I rv h
  obtain ⟨w, xs, z, rfl, c, va, e, q⟩ := h
  cases va with
  | nil => cases e
  | @cons r _ x _ h t =>
    cases t with
    | cons _ _ => cases x <;> cases e
    | nil =>
      cases x with
      | list ds =>
        obtain ⟨p, ys, rfl, h1, h2⟩ := VW.list_tracked h
        cases e
        exact call_list_of pins s σ _ _ _ _ I rv ⟨p, ys, rfl, .inl h1, q.lst c h2⟩
      | tuple ds =>
        cases h with
        | tup h1 h2 =>
          cases e
          exact call_list_of pins s σ _ _ _ _ I rv ⟨_, _, rfl, .inr h1.sq, q.lst c h2⟩
      | _ => cases e
theorem blt_tuple : CallR X (.type "tuple") (rGb X.K .tuple) := by
  intro pins s σ H us vs Q I rv h
  obtain ⟨w, xs, z, rfl, c, va, e, q⟩ := h
  cases va with
  | nil => cases e
  | @cons r _ x _ h t =>
    cases t with
    | cons _ _ => cases x <;> cases e
    | nil =>
      cases x with
      | list ds =>
        obtain ⟨p, ys, rfl, h1, h2⟩ := VW.list_tracked h
        cases e
        exact call_tuple_of pins s σ _ _ _ _ I rv ⟨p, ys, rfl, .inl ⟨h1, q.tup c h2⟩⟩
      | tuple ds =>
        cases h with
        | tup h1 h2 =>
          cases e
          exact call_tuple_of pins s σ _ _ _ _ I rv ⟨_, _, rfl, .inr ⟨h1.sq, q.now c (.tup h1 h2)⟩⟩
      | _ => cases e
theorem RDs.each {K : PySem.W.Frag} {w : Wd} : ∀ {ds : List PyData} {vs : List V} {us : List Value}, RDs K w vs ds → Vals vs us → PySem.W.EachIs (fun u d => ∃ x : V, RelV x u ∧ RD K w x d) us ds
  | _, _, _, .nil, .nil => .nil
  | _, _, _, .cons h t, .cons r rs => .cons ⟨_, r, h⟩ (RDs.each t rs)
theorem each_RDs {K : PySem.W.Frag} {w : Wd} : ∀ {us : List Value} {ds : List PyData}, PySem.W.EachIs (fun u d => ∃ x : V, RelV x u ∧ RD K w x d) us ds → ∃ vs : List V, RDs K w vs ds ∧ Vals vs us
  | _, _, .nil => ⟨[], .nil, .nil⟩
  | _, _, .cons ⟨x, r, h⟩ t => let ⟨vs, h1, h2⟩ := each_RDs t; ⟨x :: vs, .cons h h1, .cons r h2⟩
theorem each_reads {pins : List (Addr × Obj)} {s : Shared} {σ : L2.St} {w : Wd} (I : Inv X pins σ w.H s) : ∀ {us : List Value} {ds : List PyData}, PySem.W.EachIs (fun u d => ∃ x : V, RelV x u ∧ RD X.K w x d) us ds → PySem.W.EachIs (fun u d => ∃ as, Reads s.heap u d as) us ds
  | _, _, .nil => .nil
  | _, _, .cons (b := d) ⟨x, r, h⟩ t => .cons (RD.reads I d x _ h r) (each_reads I t)
theorem blt_sorted (hu : X.A.units + 128 < cLine) : CallR X (.builtin "sorted") (rGb X.K .sorted) := by
  intro pins s σ H us vs Q I rv h
  obtain ⟨w, xs, z, rfl, c, va, e, q⟩ := h
  cases va with
  | nil => cases e
  | @cons r _ x _ h t =>
    cases t with
    | cons _ _ => cases x <;> cases e
    | nil =>
      cases x with
      | list ds =>
        obtain ⟨p, ys, rfl, h1, h2⟩ := VW.list_tracked h
        obtain ⟨ok, rfl⟩ := some_if (show (if srtOk ds = true then some (PyData.list (srt ds)) else none) = some z from e)
        unfold srtOk at ok
        rw [Bool.and_eq_true, Bool.and_eq_true, Bool.and_eq_true] at ok
        obtain ⟨⟨⟨o1, o2⟩, o3⟩, o4⟩ := ok
        have o4 := of_decide_eq_true o4
        obtain ⟨its, rvs, hl, hz⟩ := I.list h1
        rw [Vals.ref1 rv]
        have e1 := RDs.each h2 rvs
        refine PySem.W.sorted_data (enc := id) hl.isList e1 (each_reads I e1) ?_ ?_ (by rw [sizeLine_eq]; exact o4) ?_ fun out hlen ho => ?_
        · rw [List.map_id]
          intro d hd d' hd'
          exact List.all_eq_true.mp (List.all_eq_true.mp o1 d hd) d' hd'
        · rw [List.map_id]
          rcases Bool.or_eq_true_iff.mp o2 with o2 | o2
          · left
            intro d hd
            have := List.all_eq_true.mp o2 d hd
            cases d with
            | tuple l => cases l with
              | nil => cases this
              | cons a b => exact ⟨a, b, rfl⟩
            | _ => cases this
          · right
            intro d hd
            have := List.all_eq_true.mp o2 d hd
            refine ⟨?_, ?_⟩
            · rintro rfl; cases this
            · rintro l rfl; cases this
        · intro d hd
          have := of_decide_eq_true (List.all_eq_true.mp o3 d hd)
          show X.A.units + 2 + d.depth < cLine
          omega
        · obtain ⟨vs', k1, k2⟩ := each_RDs ho
          obtain ⟨ep, he'⟩ := PyProof.Rows.sortedAll_at s.heap its out.toArray
          have hn : w.H (s.heap.objs.size + 1) = none := I.hok.fresh (Nat.le_succ _)
          refine ⟨.ref _, upd w.H (s.heap.objs.size + 1) (.lst vs'), I.laid (t' := s.toks) (fun _ _ => PyProof.Rows.sortedAll_old) (Nat.le_succ _) ⟨by rw [k2.length, hlen, sizeLine_eq]; exact o4, out, ep, k2, he'⟩, rfl, q.lst c k1 _ hn⟩
      | _ => cases e
/-- isinstance(x, t), t a built-in class -/
theorem isi_all (t : String) : CallR X (.builtin "isinstance") (fun us H Q => ∃ w x b r, w.H = H ∧ COk X.K w ∧ us = [r, .ty t] ∧ VW X.K w r x ∧ isiF x t = some b ∧ Q (.bl b) H) := by
  intro pins s σ H us vs Q I rv h
  obtain ⟨w, x, b, r, rfl, c, rfl, va, e, q⟩ := h
  exact call_isi pins s σ _ _ _ _ I rv ⟨r, .ty t, .type (tyF x), .type t, b, rfl, .ty t, ty_view va, kit_ty e, q⟩
end
end Mini

/-! Mini, part D: readings of the layer from the small language's meanings; the promise of a def. -/
namespace Mini
open PySem PySem.Spec PyProof.Rows L2

/-- the exception e, raised with class cls and own dict d -/
def ExR (K : PySem.W.Frag) (mg : Str → Option Value) (w : Wd) (e : Exn) (cls : Value) (d : Option Addr) : Prop :=
  mg e.cls = some cls ∧ ∃ dd v, d = some dd ∧ w.H dd = some (.xd [("value", v)]) ∧ RV K w v e.val
def PV (K : PySem.W.Frag) (w : Wd) (Qm : QE) (Q : VK) : Prop := ∀ v w', Qm v w'.st → Grow w w' → COk K w' → ∀ r, RV K w' r v → Q r w'.H
def PB (K : PySem.W.Frag) (w : Wd) (Qm : Bool → ST → Prop) (Q : Bool → Hp → Prop) : Prop := ∀ b w', Qm b w'.st → Grow w w' → COk K w' → Q b w'.H
def PL (K : PySem.W.Frag) (w : Wd) (Qm : List EV → ST → Prop) (Q : List V → Hp → Prop) : Prop := ∀ vs w', Qm vs w'.st → Grow w w' → COk K w' → ∀ rs, RVs K w' rs vs → Q rs w'.H
def PO' (K : PySem.W.Frag) (w : Wd) (Qm : Option Int → ST → Prop) (Q : Option Int → Hp → Prop) : Prop := ∀ o w', Qm o w'.st → Grow w w' → COk K w' → Q o w'.H
def PX (K : PySem.W.Frag) (mg : Str → Option Value) (w : Wd) (Xm : QX) (E : XK) : Prop := ∀ e w' cls d, Xm e w'.st → Grow w w' → COk K w' → ExR K mg w' e cls d → E cls d w'.H
section
variable {K : PySem.W.Frag} {mg : Str → Option Value} {w w1 : Wd}
theorem PV.grow {Qm : QE} {Q : VK} (p : PV K w Qm Q) (g : Grow w w1) : PV K w1 Qm Q := fun v w' q g' c r h => p v w' q (g.trans g') c r h
theorem PB.grow {Qm : Bool → ST → Prop} {Q : Bool → Hp → Prop} (p : PB K w Qm Q) (g : Grow w w1) : PB K w1 Qm Q := fun v w' q g' c => p v w' q (g.trans g') c
theorem PL.grow {Qm : List EV → ST → Prop} {Q : List V → Hp → Prop} (p : PL K w Qm Q) (g : Grow w w1) : PL K w1 Qm Q := fun v w' q g' c r h => p v w' q (g.trans g') c r h
theorem PO'.grow {Qm : Option Int → ST → Prop} {Q : Option Int → Hp → Prop} (p : PO' K w Qm Q) (g : Grow w w1) : PO' K w1 Qm Q := fun v w' q g' c => p v w' q (g.trans g') c
theorem PX.grow {Xm : QX} {E : XK} (p : PX K mg w Xm E) (g : Grow w w1) : PX K mg w1 Xm E := fun e w' cls d q g' c h => p e w' cls d q (g.trans g') c h
theorem Ret.of {z : PyData} {Qm : QE} {Q : VK} {w0 : Wd} (p : PV K w0 Qm Q) (g : Grow w0 w) (q : Qm (.d z) w.st) : Ret K w z Q := fun w' g' est _ c r h => p (.d z) w' (by rw [est]; exact q) (g.trans g') c r h
end

/-- the readings -/
def RE (K : PySem.W.Frag) (mg : Str → Option Value) (W : WX) (m : ME) : TE := fun σ H Q => ∃ env w Qm Xm, w.H = H ∧ EOk K w σ env ∧ COk K w ∧ m env w.st Qm Xm ∧ PV K w Qm Q ∧ PX K mg w Xm (fun c d H' => W c d σ H')
def RT (K : PySem.W.Frag) (mg : Str → Option Value) (W : WX) (m : MT) : TT := fun σ H Q => ∃ env w Qm Xm, w.H = H ∧ EOk K w σ env ∧ COk K w ∧ m env w.st Qm Xm ∧ PB K w Qm Q ∧ PX K mg w Xm (fun c d H' => W c d σ H')
def RA (K : PySem.W.Frag) (mg : Str → Option Value) (W : WX) (m : MA) : TA := fun σ H Q => ∃ env w Qm Xm, w.H = H ∧ EOk K w σ env ∧ COk K w ∧ m env w.st Qm Xm ∧ PL K w Qm Q ∧ PX K mg w Xm (fun c d H' => W c d σ H')
def RO (K : PySem.W.Frag) (mg : Str → Option Value) (W : WX) (m : Ev → ST → (Option Int → ST → Prop) → QX → Prop) : TO := fun σ H Q => ∃ env w Qm Xm, w.H = H ∧ EOk K w σ env ∧ COk K w ∧ m env w.st Qm Xm ∧ PO' K w Qm Q ∧ PX K mg w Xm (fun c d H' => W c d σ H')
/-- an iterator that gives the items -/
def ItR (K : PySem.W.Frag) (w : Wd) (J : It) (items : List PyData) (chk : ST → Prop) : Prop :=
  ∀ w', Later w w' → COk K w' → chk w'.st → ∀ i, (i < items.length → J.go i w'.H ∧ ∀ x H', J.yld i w'.H x H' → ∃ w'', w''.H = H' ∧ w''.st = w'.st ∧ Grow w' w'' ∧ COk K w'' ∧ ∃ d, items[i]? = some d ∧ RD K w'' x d) ∧ (items.length ≤ i → J.stop i w'.H)
def PI' (K : PySem.W.Frag) (w : Wd) (Rm : List PyData → (ST → Prop) → ST → Prop) (R : It → Hp → Prop) : Prop := ∀ items chk w' J, Rm items chk w'.st → Grow w w' → COk K w' → chk w'.st → ItR K w' J items chk → R J w'.H
def RI (K : PySem.W.Frag) (mg : Str → Option Value) (W : WX) (m : MI) : TI := fun σ H R => ∃ env w Rm Xm, w.H = H ∧ EOk K w σ env ∧ COk K w ∧ m env w.st Rm Xm ∧ PI' K w Rm R ∧ PX K mg w Xm (fun c d H' => W c d σ H')
def RG (K : PySem.W.Frag) (t : T) : TG := fun v σ H Q => ∃ env w x e1, w.H = H ∧ EOk K w σ env ∧ COk K w ∧ RD K w v x ∧ bindT t x env = some e1 ∧ ∀ σ', EOk K w σ' e1 → (∀ vs, (∀ i ∈ slotsT t, i ∈ vs) → wipe σ' vs = wipe σ vs) → Q σ' H
def RGs (K : PySem.W.Frag) (ts : TL) : TGs := fun vs σ H Q => ∃ env w xs e1, w.H = H ∧ EOk K w σ env ∧ COk K w ∧ RDs K w vs xs ∧ bindTs ts xs env = some e1 ∧ ∀ σ', EOk K w σ' e1 → (∀ vs, (∀ i ∈ slotsTs ts, i ∈ vs) → wipe σ' vs = wipe σ vs) → Q σ' H

/-! ### weaker readings -/
section
variable {X : Cx}
theorem PE.imp {e : Expr} {t t' : TE} (h : PE X e t) (hi : ∀ σ H Q, t' σ H Q → t σ H Q) : PE X e t' := ⟨fun pins s σ H Q I hq => h.run pins s σ H Q I (hi _ _ _ hq)⟩
theorem PT.imp {e : Expr} {t t' : TT} (h : PT X e t) (hi : ∀ σ H Q, t' σ H Q → t σ H Q) : PT X e t' := ⟨fun pins s σ H Q I hq => h.run pins s σ H Q I (hi _ _ _ hq)⟩
theorem PW.imp {e : Expr} {t t' : TT} (h : PW X e t) (hi : ∀ σ H Q, t' σ H Q → t σ H Q) : PW X e t' := ⟨fun wh pins s σ H Q I hq => h.run wh pins s σ H Q I (hi _ _ _ hq)⟩
theorem PA.imp {es : List Expr} {t t' : TA} (h : PA X es t) (hi : ∀ σ H Q, t' σ H Q → t σ H Q) : PA X es t' := ⟨fun pos pins s σ H Q I hq => h.run pos pins s σ H Q I (hi _ _ _ hq)⟩
theorem PI.imp {tg e : Expr} {t t' : TI} (h : PI X tg e t) (hi : ∀ σ H R, t' σ H R → t σ H R) : PI X tg e t' := ⟨fun pins s σ H R I hq => h.run pins s σ H R I (hi _ _ _ hq)⟩
theorem PG.imp {e : Expr} {t t' : TG} (h : PG X e t) (hi : ∀ v σ H Q, t' v σ H Q → t v σ H Q) : PG X e t' := ⟨fun pins s σ H v u Q I r hq => h.run pins s σ H v u Q I r (hi _ _ _ _ hq)⟩
theorem PGs.imp {es : List Expr} {t t' : TGs} (h : PGs X es t) (hi : ∀ v σ H Q, t' v σ H Q → t v σ H Q) : PGs X es t' := ⟨fun pins s σ H v u Q I r hq => h.run pins s σ H v u Q I r (hi _ _ _ _ hq)⟩
theorem PS.imp {st : Stmt} {t t' : TS} (h : PS X st t) (hi : ∀ D σ H, t' D σ H → t D σ H) : PS X st t' := ⟨fun pins s σ H D I hq => h.run pins s σ H D I (hi _ _ _ hq)⟩
theorem PSs.imp {st : List Stmt} {t t' : TS} (h : PSs X st t) (hi : ∀ D σ H, t' D σ H → t D σ H) : PSs X st t' := ⟨fun pins s σ H D I hq => h.run pins s σ H D I (hi _ _ _ hq)⟩
theorem PTs.imp {es : List Expr} {t t' : TT} (h : PTs X es t) (hi : ∀ σ H Q, t' σ H Q → t σ H Q) : PTs X es t' := ⟨fun pins s σ H Q I hq => h.run pins s σ H Q I (hi _ _ _ hq)⟩
theorem PO.imp {o : Option Expr} {t t' : TO} (h : PO X o t) (hi : ∀ σ H Q, t' σ H Q → t σ H Q) : PO X o t' := ⟨fun pins s σ H Q I hq => h.run pins s σ H Q I (hi _ _ _ hq)⟩
end

/-! ### the shapes -/
section
variable {K : PySem.W.Frag} {mg : Str → Option Value} {W : WX} {σ : L2.St} {H : Hp}
theorem re_strict2 {ma mb : ME} {g : PyData → PyData → Option PyData} {Q : VK} (h : RE K mg W (strict2 ma mb g) σ H Q) : tOp (rG K g) (RE K mg W ma) (RE K mg W mb) σ H Q := by
  obtain ⟨env, w, Qm, Xm, rfl, ho, hc, hm, pv, px⟩ := h
  refine ⟨env, w, _, Xm, rfl, ho, hc, hm, fun v w1 hv g1 c1 r rv => ⟨env, w1, _, Xm, rfl, ho.grow hc g1, c1, hv, fun u w2 hu g2 c2 r2 ru => ?_, px.grow g1⟩, px⟩
  obtain ⟨x, y, z, e1, e2, e3, q⟩ := hu
  exact ⟨w2, x, y, z, rfl, c2, (rv.grow c1 g2).view c2 e1, ru.view c2 e2, e3, Ret.of pv (g1.trans g2) q⟩
theorem re_strict1 {ma : ME} {g : PyData → Option PyData} {Q : VK} (h : RE K mg W (strict1 ma g) σ H Q) : RE K mg W ma σ H fun x H1 => rG1 K g x H1 Q := by
  obtain ⟨env, w, Qm, Xm, rfl, ho, hc, hm, pv, px⟩ := h
  refine ⟨env, w, _, Xm, rfl, ho, hc, hm, fun v w1 hv g1 c1 r rv => ?_, px⟩
  obtain ⟨x, z, e1, e2, q⟩ := hv
  exact ⟨w1, x, z, rfl, c1, rv.view c1 e1, e2, Ret.of pv g1 q⟩
theorem re_test {m : ME} {Q : Bool → Hp → Prop} (h : RT K mg W (testOf m) σ H Q) : RE K mg W m σ H fun x H' => ∃ k, TruV K x H' k ∧ Q k H' := by
  obtain ⟨env, w, Qm, Xm, rfl, ho, hc, hm, pv, px⟩ := h
  refine ⟨env, w, _, Xm, rfl, ho, hc, hm, fun v w1 hv g1 c1 r rv => ?_, px⟩
  obtain ⟨x, b, e1, e2, q⟩ := hv
  exact ⟨b, (rv.view c1 e1).tru e2, pv b w1 q g1 c1⟩
/-- a comparison's test -/
theorem re_testB {m : ME} (hb : ∀ env st Q X, m env st Q X → m env st (fun v s => Q v s ∧ ∃ b, v = .d (.bool b)) X) {Q : Bool → Hp → Prop} (h : RT K mg W (testOf m) σ H Q) : RE K mg W m σ H fun x H' => ∃ k, x = .bl k ∧ Q k H' := by
  obtain ⟨env, w, Qm, Xm, rfl, ho, hc, hm, pv, px⟩ := h
  refine ⟨env, w, _, Xm, rfl, ho, hc, hb _ _ _ _ hm, fun v w1 hv g1 c1 r rv => ?_, px⟩
  obtain ⟨⟨x, b, e1, e2, q⟩, b', rfl⟩ := hv
  cases rv
  cases e1
  cases e2
  exact ⟨_, rfl, pv _ w1 q g1 c1⟩
end

/-! ### the promise of a def, where no repr runs around it -/
structure GFn (P : Program) (w : World) (K : PySem.W.Frag) (mg : Str → Option Value) (base : Heap) (CX : CXT) (k : Nat) (f : Addr) (fd : FuncData) (ps : List Str) (sp : Sp) : Prop where
  len : ∀ vs H Q E, sp vs H Q E → vs.length = ps.length
  run : ∀ (A : Around) (outer : List Env) (s : Shared) (H : Hp) (args : Args) (us : List Value) (vs : List V) (Q : VK) (E : XK), Room k A → A.guards = some [] → Env0 P w K mg base A outer s H → BindsTo s fd args (ps.zip us) → Vals vs us → sp vs H Q E →
    codeAny (model P w) A (.call (.ref f) args) (CR CX outer P w H s Q E) s
theorem GFn.mono {P : Program} {w : World} {K : PySem.W.Frag} {mg : Str → Option Value} {base : Heap} {CX : CXT} {j k : Nat} {f : Addr} {fd : FuncData} {ps : List Str} {sp : Sp} (F : GFn P w K mg base CX j f fd ps sp) (h : j ≤ k) : GFn P w K mg base CX k f fd ps sp :=
  ⟨F.len, fun A outer s H args us vs Q E hr => F.run A outer s H args us vs Q E (hr.mono h)⟩
section
variable {X : Cx} {CX : CXT} {k : Nat} {f : Addr} {fd : FuncData} {ps : List Str} {sp : Sp} {E : L2.St → XK} {x : Str} {p pos : Pos} {e : Expr} {es : List Expr} {t : TA}
theorem run_gfn {pins : List (Addr × Obj)} {σ : L2.St} {H : Hp} {s : Shared} {Q : VK} {us : List Value} {vs : List V} (F : GFn X.prog X.w X.K X.mg X.base CX k f fd ps sp) (hr : Room k X.A) (hg : X.A.guards = some []) (hb : Binds X.K fd ps []) (hx : PassesAt CX X σ (E σ))
    (I : L2.Inv X pins σ H s) (r : Vals vs us) (h : sp vs H Q (E σ)) : wpAny (model X.prog X.w) X.A (call (.ref f) us) (EP X pins σ Q) X.xe s := by
  have n1 : us.length = ps.length := r.length ▸ F.len _ _ _ _ h
  have b : BindsTo s fd ⟨us, []⟩ (ps.zip us) := by simpa using hb s us I.kIn (by simpa using n1)
  refine wpAny_call (codeAny_mono (F.run X.A X.stack s H ⟨us, []⟩ us vs Q (E σ) hr hg I.env0 b r h) fun res s' hq => ?_)
  match res, hq with
  | .error e, hq => exact hx pins H s e s' I hq
  | .ok (.ret u), hq => exact I.after hq
  | .ok .next, hq => exact hq.elim
  | .ok .brk, hq => exact hq.elim
  | .ok .cont, hq => exact hq.elim
/-- f(e, ..) -/
theorem pe_gcall (F : GFn X.prog X.w X.K X.mg X.base CX k f fd ps sp) (hr : Room k X.A) (hgd : X.A.guards = some []) (hg : Gl X x) (hm : X.mg x = some (.ref f)) (hk : PySem.W.keepIn X.K (.ref f) = true) (hb : Binds X.K fd ps []) (hx : ∀ σ, PassesAt CX X σ (E σ))
    (ha : PA X (e :: es) t) (hdb : (x == ("__debug__" : Str)) = false) (he : starEach (e :: es) X.env = (false, eval e X.env) :: starEach es X.env) (hpl : (backTo pos (starEach es X.env)).any (·.1) = false) :
    PE X (.Call (.Name x p) (e :: es) [] pos) (tCallS sp E t) := by
  refine ⟨fun pins s σ H Q I h => wpAny_Call_Name_kw (ld_glob I hg hm ?_ hdb)⟩
  exact PySem.W.callWith_K (h₀ := X.base) I.ok.mod.kin hk (thn (ha.run pos pins s σ H _ I h) fun us s1 ⟨vs, H1, I1, r, q⟩ => ⟨I1.kIn, run_gfn F hr hgd hb (hx σ) I1 r q⟩) he hpl
end
def spOf (K : PySem.W.Frag) (mg : Str → Option Value) (n : Nat) (sp : Spec) : Sp := fun vs H Q E => ∃ w es Qm Xm, w.H = H ∧ COk K w ∧ RVs K w vs es ∧ es.length = n ∧ sp es w.st Qm Xm ∧ PV K w Qm Q ∧ PX K mg w Xm E

/-- what is known of the module -/
structure Facts (P : Program) (w : World) (K : PySem.W.Frag) (mg : Str → Option Value) (base : Heap) (k : Nat) (T : Tab) : Prop where
  blt : ∀ x ∈ T.blts, mg x = none
  glb : ∀ q ∈ T.glbs, ∃ u, mg q.1 = some u ∧ RelV (toV q.2) u
  fns : ∀ (i : Nat) (q : Str × Nat × Spec), T.fns[i]? = some q → ∃ f fd ps, GFn P w K mg base (L2.CX P w) k f fd ps (spOf K mg q.2.1 q.2.2) ∧ mg q.1 = some (.ref f) ∧ PySem.W.keepIn K (.ref f) = true ∧ Binds K fd ps []
/-- where the text runs -/
structure Good (X : Cx) (N : List Str) (sc : Scope) (k : Nat) : Prop where
  hN : X.N = N
  scp : X.env.scope = sc
  nd : N.Nodup
  calm : X.calm = true
  room : Room k X.A
  gd : X.A.guards = some []
  kind : sc.kind = .function

/-! ### no star -/
def nst : Expr → Bool
  | .Starred .. => false
  | _ => true
theorem star_cons {e : Expr} {es : List Expr} {env : Env} (h : nst e = true) : starEach (e :: es) env = (false, eval e env) :: starEach es env := by
  cases e <;> first | rfl | cases h
theorem star_all : ∀ {es : List Expr} {env : Env} {pos : Pos}, es.all nst = true → (backTo pos (starEach es env)).any (·.1) = false
  | [], _, _, _ => rfl
  | e :: es, env, pos, h => by
    have h' : nst e = true ∧ es.all nst = true := by simpa using h
    rw [star_cons h'.1]
    show (false || (backTo pos (starEach es env)).any (·.1)) = false
    rw [star_all h'.2] <;> rfl
theorem mE_nst {T : Tab} {N : List Str} {sc : Scope} {e : E} {p : Expr} (h : mE T N sc e p = true) : nst p = true := by
  cases p <;> first | rfl | (cases e <;> simp [mE] at h)
theorem mEL_nst {T : Tab} {N : List Str} {sc : Scope} : ∀ {es : EL} {ps : List Expr}, mEL T N sc es ps = true → ps.all nst = true
  | .nil, [], _ => rfl
  | .nil, _ :: _, h => by simp [mEL] at h
  | .cons _ _, [], h => by simp [mEL] at h
  | .cons e es, p :: ps, h => by
    simp only [mEL, Bool.and_eq_true] at h
    rw [List.all_cons, mE_nst h.1, mEL_nst h.2] <;> rfl
end Mini

/-! Mini, part E: each expression of the program does what its text in the small language says. -/
namespace Mini
open PySem PySem.Spec PyProof.Rows L2

structure Cxt (X : Cx) (N : List Str) (sc : Scope) (k : Nat) (T : Tab) (W : WX) : Prop where
  tk : Takes X W
  gd : Good X N sc k
  fa : Facts X.prog X.w X.K X.mg X.base k T
def SndE (T : Tab) (e : E) : Prop := ∀ {X : Cx} {N : List Str} {sc : Scope} {k : Nat} {W : WX}, Cxt X N sc k T W → ∀ p, mE T N sc e p = true → PE X p (RE X.K X.mg W (den T e).v) ∧ PT X p (RT X.K X.mg W (den T e).t)

def nse : Expr → Bool
  | .Set .. => false
  | _ => true
theorem mE_nse {T : Tab} {N : List Str} {sc : Scope} {e : E} {p : Expr} (h : mE T N sc e p = true) : nse p = true := by
  cases p <;> first | rfl | (cases e <;> simp [mE] at h)
theorem marks_off {p : Expr} (h : nse p = true) (op : CmpOp) : behindInMarks op p = false := by
  cases p <;> first | rfl | cases h
theorem lmarks_off {p q : Expr} (h : nse q = true) (o1 o2 : CmpOp) : lastMarks [o1, o2] [p, q] = false := marks_off h o2
theorem and_iff {a b : Bool} (h : (a && b) = true) : a = true ∧ b = true := Bool.and_eq_true_iff.mp h
theorem dec_of {p : Prop} [Decidable p] (h : decide p = true) : p := of_decide_eq_true h

section
variable {X : Cx} {N : List Str} {sc : Scope} {k : Nat} {T : Tab} {W : WX}
theorem Cxt.units (C : Cxt X N sc k T W) : X.A.units + 65 < cLine := by
  have := C.gd.room.un
  omega
theorem Cxt.units2 (C : Cxt X N sc k T W) : X.A.units + 128 < cLine := by
  have := C.gd.room.un
  omega
theorem Cxt.gl_ (C : Cxt X N sc k T W) {x : Str} (h : gl sc x = true) : Gl X x ∧ (x == ("__debug__" : Str)) = false ∧ x ≠ "__name__" := by
  unfold gl at h
  obtain ⟨h, h3⟩ := and_iff h
  obtain ⟨h1, h2⟩ := and_iff h
  refine ⟨?_, dec_of h2, dec_of h3⟩
  show X.env.scope.names.lookup x = _
  rw [C.gd.scp]
  exact dec_of h1
theorem plain_pt {p : Expr} {m : ME} (he : ∀ whole, isTrue p X.env whole = (do let v ← whole; standAt p.pos; holding [v] (truthy v))) (h : PE X p (RE X.K X.mg W m)) : PE X p (RE X.K X.mg W (DE.of m).v) ∧ PT X p (RT X.K X.mg W (DE.of m).t) :=
  ⟨h, PT.imp (pt_truth h he) fun _ _ _ q => re_test q⟩

theorem snd_var (i : Nat) : SndE T (.var i) := by
  intro X N sc k W C p h
  simp only [mE] at h
  split at h
  · rename_i x pos
    obtain ⟨h1, h2⟩ := and_iff h
    unfold vis at h2
    obtain ⟨h2, h4⟩ := and_iff h2
    obtain ⟨h2, h3⟩ := and_iff h2
    refine plain_pt (fun _ => rfl) (PE.imp (pe_var (i := i) (by rw [C.gd.hN]; exact dec_of h1) ?_ (dec_of h3) (dec_of h4)) fun σ H Q q => ?_)
    · show X.env.scope.names.lookup x = _ ∨ _
      rw [C.gd.scp]
      rcases Bool.or_eq_true_iff.mp h2 with h2 | h2
      · rcases Bool.or_eq_true_iff.mp h2 with h2 | h2
        · exact .inl (dec_of h2)
        · exact .inr (.inl (dec_of h2))
      · exact .inr (.inr (dec_of h2))
    · obtain ⟨env, w, Qm, Xm, rfl, ho, hc, ⟨v, e, hm⟩, pv, px⟩ := q
      obtain ⟨r, e1, rv⟩ := ho.at_ i v e
      exact ⟨r, e1, pv v w hm (.refl w) hc r rv⟩
  · cases h
theorem rd_flat {K : PySem.W.Frag} {w : Wd} {x : PyData} (f : flatP x = true) : RD K w (toV x) x := by
  cases x with
  | none => exact .non
  | bool b => exact .bl b
  | int i => exact .int i
  | str s => exact .str s
  | _ => cases f
theorem re_const {K : PySem.W.Frag} {mg : Str → Option Value} {x : PyData} (f : flatP x = true) {σ : L2.St} {H : Hp} {Q : VK} (q : RE K mg W (fun _ st Q _ => Q (.d x) st) σ H Q) : tC (toV x) σ H Q := by
  obtain ⟨env, w, Qm, Xm, rfl, ho, hc, hm, pv, px⟩ := q
  exact pv (.d x) w hm (.refl w) hc _ (rd_flat f)
theorem snd_cst (x : PyData) : SndE T (.cst x) := by
  intro X N sc k W C p h
  simp only [mE] at h
  split at h
  · rename_i c n pos
    cases x with
    | none =>
      cases c with
      | none => exact plain_pt (fun _ => rfl) (PE.imp pe_non fun _ _ _ q => re_const rfl q)
      | _ => cases h
    | bool b =>
      cases c with
      | bool b' =>
        have e : b = b' := by simpa [cstOk] using h
        subst e
        exact plain_pt (fun _ => rfl) (PE.imp pe_bl fun _ _ _ q => re_const rfl q)
      | _ => cases h
    | int b =>
      cases c with
      | int b' =>
        have e : b = b' := by simpa [cstOk] using h
        subst e
        exact plain_pt (fun _ => rfl) (PE.imp pe_int fun _ _ _ q => re_const rfl q)
      | _ => cases h
    | str b =>
      cases c with
      | str b' =>
        have e : b = b' := by simpa [cstOk] using h
        subst e
        exact plain_pt (fun _ => rfl) (PE.imp pe_str fun _ _ _ q => re_const rfl q)
      | _ => cases h
    | list _ => cases h
    | tuple _ => cases h
    | dict _ => cases h
  · cases h
theorem snd_glb (nm : Str) (x : PyData) : SndE T (.glb nm x) := by
  intro X N sc k W C p h
  simp only [mE] at h
  split at h
  · rename_i y pos
    obtain ⟨h, h3⟩ := and_iff h
    obtain ⟨h1, h2⟩ := and_iff h
    have e1 : y = nm := dec_of h1
    subst e1
    obtain ⟨q, hq, h4⟩ := List.any_eq_true.mp h3
    obtain ⟨h4, h8⟩ := and_iff h4
    obtain ⟨h4, h7⟩ := and_iff h4
    obtain ⟨h4, h6⟩ := and_iff h4
    obtain ⟨h4, h5⟩ := and_iff h4
    obtain ⟨u, hu, ru⟩ := C.fa.glb q hq
    have e2 : q.1 = y := dec_of h4
    rw [e2] at hu
    rw [dec_of h8] at ru
    obtain ⟨g1, g2, g3⟩ := C.gl_ h2
    exact plain_pt (fun _ => rfl) (PE.imp (pe_glob g1 hu ru g2) fun _ _ _ q => re_const h7 q)
  · cases h
theorem re_not {K : PySem.W.Frag} {mg : Str → Option Value} {m : ME} {σ : L2.St} {H : Hp} {Q : VK} (q : RE K mg W (boolOf fun env st Q X => testOf m env st (fun b s => Q (!b) s) X) σ H Q) : tNotT K (RE K mg W m) σ H Q := by
  obtain ⟨env, w, Qm, Xm, rfl, ho, hc, hm, pv, px⟩ := q
  refine ⟨env, w, _, Xm, rfl, ho, hc, hm, fun v w1 hv g1 c1 r rv => ?_, px⟩
  obtain ⟨x, b, e1, e2, q⟩ := hv
  exact ⟨b, (rv.view c1 e1).tru e2, pv _ w1 q g1 c1 _ (.bl _)⟩
theorem rt_not {K : PySem.W.Frag} {mg : Str → Option Value} {m : MT} {σ : L2.St} {H : Hp} {Q : Bool → Hp → Prop} (q : RT K mg W (fun env st Q X => m env st (fun b s => Q (!b) s) X) σ H Q) : tNot (RT K mg W m) σ H Q := by
  obtain ⟨env, w, Qm, Xm, rfl, ho, hc, hm, pv, px⟩ := q
  exact ⟨env, w, _, Xm, rfl, ho, hc, hm, fun b w1 hv g1 c1 => pv _ w1 hv g1 c1, px⟩
theorem snd_un {op : UnaryOp} {a : E} (ha : SndE T a) : SndE T (.un op a) := by
  intro X N sc k W C p h
  simp only [mE] at h
  split at h
  · rename_i o e pos
    obtain ⟨h1, h2⟩ := and_iff h
    have e1 : o = op := dec_of h1
    subst e1
    obtain ⟨pe, pt⟩ := ha C e h2
    have other : ∀ {o : UnaryOp}, o ≠ .Not → (∀ whole, isTrue (.UnaryOp o e pos) X.env whole = (do let v ← whole; standAt (PySem.Expr.UnaryOp o e pos).pos; holding [v] (truthy v))) →
        PE X (.UnaryOp o e pos) (RE X.K X.mg W (DE.of (strict1 (den T a).v (unF o))).v) ∧ PT X (.UnaryOp o e pos) (RT X.K X.mg W (DE.of (strict1 (den T a).v (unF o))).t) := fun {o} ho hi =>
      plain_pt hi (PE.imp (pe_un (un_all o ho) pe) fun _ _ _ q => re_strict1 q)
    cases o with
    | Not => exact ⟨PE.imp (pe_notT pe) fun _ _ _ q => re_not q, PT.imp (pt_not pt) fun _ _ _ q => rt_not q⟩
    | USub => exact other (by decide) fun _ => rfl
    | UAdd => exact other (by decide) fun _ => rfl
    | Invert => exact other (by decide) fun _ => rfl
  · cases h
theorem snd_bin {op : Operator} {a b : E} (ha : SndE T a) (hb : SndE T b) : SndE T (.bin op a b) := by
  intro X N sc k W C p h
  simp only [mE] at h
  split at h
  · rename_i l o r pos
    obtain ⟨h, h3⟩ := and_iff h
    obtain ⟨h1, h2⟩ := and_iff h
    have e1 : o = op := dec_of h1
    subst e1
    exact plain_pt (fun _ => rfl) (PE.imp (pe_op (op_all o) (ha C l h2).1 (hb C r h3).1) fun _ _ _ q => re_strict2 q)
  · cases h
theorem rt_strict2 {K : PySem.W.Frag} {mg : Str → Option Value} {ma mb : ME} {g : PyData → PyData → Option Bool} {σ : L2.St} {H : Hp} {Q : Bool → Hp → Prop} (h : RT K mg W (testOf (strict2 ma mb fun x y => (g x y).map .bool)) σ H Q) :
    tTest (tOp (rG K fun x y => (g x y).map .bool) (RE K mg W ma) (RE K mg W mb)) σ H Q := by
  obtain ⟨env, w, Qm, Xm, rfl, ho, hc, hm, pv, px⟩ := h
  refine ⟨env, w, _, Xm, rfl, ho, hc, hm, fun v w1 hv g1 c1 r rv => ⟨env, w1, _, Xm, rfl, ho.grow hc g1, c1, hv, fun u w2 hu g2 c2 r2 ru => ?_, px.grow g1⟩, px⟩
  obtain ⟨x, y, z, e1, e2, e3, z', b, e4, e5, q⟩ := hu
  obtain ⟨b', e6, rfl⟩ := Option.map_eq_some_iff.mp e3
  cases e4
  cases e5
  refine ⟨w2, x, y, .bool b, rfl, c2, (rv.grow c1 g2).view c2 e1, ru.view c2 e2, e3, fun w3 g3 est _ c3 r hr => ?_⟩
  cases hr
  exact ⟨b, rfl, pv b w3 (by rw [est]; exact q) (g1.trans (g2.trans g3)) c3⟩
theorem snd_cmp {op : CmpOp} {a b : E} (ha : SndE T a) (hb : SndE T b) : SndE T (.cmp op a b) := by
  intro X N sc k W C p h
  simp only [mE] at h
  split at h
  · rename_i l o r pos
    obtain ⟨h, h3⟩ := and_iff h
    obtain ⟨h1, h2⟩ := and_iff h
    have e1 : o = op := dec_of h1
    subst e1
    have hm := marks_off (mE_nse h3) o
    exact ⟨PE.imp (pe_cmpR (cmp_all C.units o) (ha C l h2).1 (hb C r h3).1 hm) fun _ _ _ q => re_strict2 q, PT.imp (pt_cmpR (cmp_all C.units o) (ha C l h2).1 (hb C r h3).1 hm) fun _ _ _ q => rt_strict2 q⟩
  · cases h
theorem isn_view {K : PySem.W.Frag} {w : Wd} {r : V} {x : PyData} (h : VW K w r x) : decide (r = .non) = isNoneP x := by
  cases x with
  | none => cases h; rfl
  | bool _ => cases h; rfl
  | int _ => cases h; rfl
  | str _ => cases h; rfl
  | list _ => obtain ⟨_, _, rfl, _⟩ := h; rfl
  | tuple _ => cases h; rfl
  | dict _ => cases h; rfl
/-- the four forms of «is» -/
theorem is_ops {neg : Bool} {c : PyData} {q : Const} (hq : cstOk c q = true) : OpR X (compareOp (if neg then .IsNot else .Is)) (fun u v H Q => ∃ w x z, w.H = H ∧ COk X.K w ∧ VW X.K w u x ∧ v = toV c ∧ (isF x c).map (fun b => PyData.bool (if neg then !b else b)) = some z ∧ Ret X.K w z Q) := by
  intro pins s σ H u v x y Q I rx ry h
  obtain ⟨w, a, z, rfl, cc, va, rfl, e, qq⟩ := h
  obtain ⟨b, e1, rfl⟩ := Option.map_eq_some_iff.mp e
  clear e
  have fin : Q (.bl (if neg = true then !b else b)) w.H := qq.now cc (.bl _)
  cases c with
  | none =>
    have hb : (decide (u = .non)) = b := by
      have e2 : some (isNoneP a) = some b := by cases a <;> exact e1
      rw [isn_view va]
      exact Option.some.inj e2
    have ey : y = .none := ry
    subst ey
    cases neg with
    | false => exact is_none_gen ⟨.bl _, w.H, I, by rw [rx.none_iff]; rfl, by rw [hb]; exact fin⟩
    | true => exact isnot_none_gen ⟨.bl _, w.H, I, by rw [rx.none_iff]; rfl, by rw [hb]; exact fin⟩
  | bool c =>
    cases a with
    | bool a =>
      cases va
      cases e1
      cases neg with
      | false => exact op_isBl pins s σ _ _ _ _ _ _ I rx ry ⟨a, c, rfl, rfl, by rw [Bool.beq_eq_decide_eq] at fin; exact fin⟩
      | true => exact op_notBl pins s σ _ _ _ _ _ _ I rx ry ⟨a, c, rfl, rfl, by rw [Bool.beq_eq_decide_eq] at fin; exact fin⟩
    | _ => cases e1
  | _ => cases a <;> cases e1
theorem pe_cst {c : PyData} {q : Const} {j : Nat} {pos : Pos} (hq : cstOk c q = true) : PE X (.Constant q j pos) (tC (toV c)) := by
  cases c with
  | none => cases q with | none => exact pe_non | _ => cases hq
  | bool b => cases q with
    | bool b' =>
      have e : b = b' := by simpa [cstOk] using hq
      subst e; exact pe_bl
    | _ => cases hq
  | int b => cases q with
    | int b' =>
      have e : b = b' := by simpa [cstOk] using hq
      subst e; exact pe_int
    | _ => cases hq
  | str b => cases q with
    | str b' =>
      have e : b = b' := by simpa [cstOk] using hq
      subst e; exact pe_str
    | _ => cases hq
  | _ => cases hq
theorem re_is {K : PySem.W.Frag} {mg : Str → Option Value} {neg : Bool} {c : PyData} {m : ME} {σ : L2.St} {H : Hp} {Q : VK} (h : RE K mg W (strict1 m fun x => (isF x c).map fun b => .bool (if neg then !b else b)) σ H Q) :
    tOp (fun u v H Q => ∃ w x z, w.H = H ∧ COk K w ∧ VW K w u x ∧ v = toV c ∧ (isF x c).map (fun b => PyData.bool (if neg then !b else b)) = some z ∧ Ret K w z Q) (RE K mg W m) (tC (toV c)) σ H Q := by
  obtain ⟨env, w, Qm, Xm, rfl, ho, hc, hm, pv, px⟩ := h
  refine ⟨env, w, _, Xm, rfl, ho, hc, hm, fun v w1 hv g1 c1 r rv => ?_, px⟩
  obtain ⟨x, z, e1, e2, q⟩ := hv
  exact ⟨w1, x, z, rfl, c1, rv.view c1 e1, rfl, e2, Ret.of pv g1 q⟩
theorem rt_is {K : PySem.W.Frag} {mg : Str → Option Value} {neg : Bool} {c : PyData} {m : ME} {σ : L2.St} {H : Hp} {Q : Bool → Hp → Prop} (h : RT K mg W (testOf (strict1 m fun x => (isF x c).map fun b => .bool (if neg then !b else b))) σ H Q) :
    tTest (tOp (fun u v H Q => ∃ w x z, w.H = H ∧ COk K w ∧ VW K w u x ∧ v = toV c ∧ (isF x c).map (fun b => PyData.bool (if neg then !b else b)) = some z ∧ Ret K w z Q) (RE K mg W m) (tC (toV c))) σ H Q := by
  obtain ⟨env, w, Qm, Xm, rfl, ho, hc, hm, pv, px⟩ := h
  refine ⟨env, w, _, Xm, rfl, ho, hc, hm, fun v w1 hv g1 c1 r rv => ?_, px⟩
  obtain ⟨x, z, e1, e2, z', b, e4, e5, q⟩ := hv
  obtain ⟨b', e6, rfl⟩ := Option.map_eq_some_iff.mp e2
  cases e4
  cases e5
  refine ⟨w1, x, _, rfl, c1, rv.view c1 e1, rfl, e2, fun w3 g3 est _ c3 r hr => ?_⟩
  cases hr
  exact ⟨_, rfl, pv _ w3 (by rw [est]; exact q) (g1.trans g3) c3⟩
theorem snd_isc {neg : Bool} {a : E} {c : PyData} (ha : SndE T a) : SndE T (.isc neg a c) := by
  intro X N sc k W C p h
  simp only [mE] at h
  split at h
  · rename_i l o q j pos pos'
    obtain ⟨h, h3⟩ := and_iff h
    obtain ⟨h1, h2⟩ := and_iff h
    have e1 : o = if neg then .IsNot else .Is := dec_of h1
    subst e1
    have hm : behindInMarks (if neg = true then CmpOp.IsNot else CmpOp.Is) (.Constant q j pos) = false := marks_off rfl _
    exact ⟨PE.imp (pe_cmpR (is_ops h3) (ha C l h2).1 (pe_cst h3) hm) fun _ _ _ q => re_is q, PT.imp (pt_cmpR (is_ops h3) (ha C l h2).1 (pe_cst h3) hm) fun _ _ _ q => rt_is q⟩
  · cases h
end
end Mini

/-! Mini, part F: chains, and | or, conditional expressions, displays, items, slices, calls. -/
namespace Mini
open PySem PySem.Spec PyProof.Rows L2

def SndL (T : Tab) (es : EL) : Prop := ∀ {X : Cx} {N : List Str} {sc : Scope} {k : Nat} {W : WX}, Cxt X N sc k T W → ∀ ps, mEL T N sc es ps = true → PA X ps (RA X.K X.mg W (denL T es).args) ∧
  ∀ pos, PE X (.BoolOp .And ps pos) (RE X.K X.mg W (denL T es).andV) ∧ PE X (.BoolOp .Or ps pos) (RE X.K X.mg W (denL T es).orV) ∧ PW X (.BoolOp .And ps pos) (RT X.K X.mg W (denL T es).andT) ∧ PW X (.BoolOp .Or ps pos) (RT X.K X.mg W (denL T es).orT)
def SndO (T : Tab) (o : EO) : Prop := ∀ {X : Cx} {N : List Str} {sc : Scope} {k : Nat} {W : WX}, Cxt X N sc k T W → ∀ p, mEO T N sc o p = true → PO X p (RO X.K X.mg W (denO T o))
def SndC (T : Tab) (o : EO) : Prop := ∀ {X : Cx} {N : List Str} {sc : Scope} {k : Nat} {W : WX}, Cxt X N sc k T W → ∀ ps, mC T N sc o ps = true → PTs X ps (RT X.K X.mg W (denC T o))

def nsl : Expr → Bool
  | .Slice .. => false
  | _ => true
theorem mE_nsl {T : Tab} {N : List Str} {sc : Scope} {e : E} {p : Expr} (h : mE T N sc e p = true) : nsl p = true := by
  cases p <;> first | rfl | (cases e <;> simp [mE] at h)
theorem plain_ix {p : Expr} (h : nsl p = true) : PlainIx p := by
  cases p <;> first | exact fun _ _ => rfl | cases h
def nab : Expr → Bool
  | .Call (.Name _ _) [] [] _ => false
  | _ => true
theorem mE_nab {T : Tab} {N : List Str} {sc : Scope} {e : E} {p : Expr} (h : mE T N sc e p = true) : nab p = true := by
  cases p with
  | Call f args kws pos =>
    cases f with
    | Name x q =>
      cases args with
      | nil => cases kws <;> first | rfl | (cases e <;> simp [mE] at h)
      | cons a as => rfl
    | _ => rfl
  | _ => rfl
theorem att_base {p : Expr} (h : nab p = true) (a : Str) (env : Env) (whole : Sem Value) : attributeBase p a env whole = whole := by
  cases p with
  | Call f args kws pos =>
    cases f with
    | Name x q =>
      cases args with
      | nil => cases kws <;> first | rfl | cases h
      | cons a as => rfl
    | _ => rfl
  | _ => rfl

section
variable {X : Cx} {N : List Str} {sc : Scope} {k : Nat} {T : Tab} {W : WX} {K : PySem.W.Frag} {mg : Str → Option Value} {σ : L2.St} {H : Hp}
theorem re_chain {ma mb mc : ME} {g1 g2 : PyData → PyData → Option Bool} {Q : VK} (h : RE K mg W (fun env st Q X => ma env st (fun v s1 => mb env s1 (fun u s2 => ∃ x y k, look s2 v = some x ∧ look s2 u = some y ∧ g1 x y = some k ∧
      if k = true then mc env s2 (fun z s3 => ∃ y' z' r, look s3 u = some y' ∧ look s3 z = some z' ∧ g2 y' z' = some r ∧ Q (.d (.bool r)) s3) X else Q (.d (.bool false)) s2) X) X) σ H Q) :
    tChain (rG K fun x y => (g1 x y).map .bool) (rG K fun x y => (g2 x y).map .bool) (RE K mg W ma) (RE K mg W mb) (RE K mg W mc) σ H Q := by
  obtain ⟨env, w, Qm, Xm, rfl, ho, hc, hm, pv, px⟩ := h
  refine ⟨env, w, _, Xm, rfl, ho, hc, hm, fun v w1 hv g1' c1 r rv => ⟨env, w1, _, Xm, rfl, ho.grow hc g1', c1, hv, fun u w2 hu g2' c2 r2 ru => ?_, px.grow g1'⟩, px⟩
  obtain ⟨x, y, kk, e1, e2, e3, q⟩ := hu
  refine ⟨w2, x, y, .bool kk, rfl, c2, (rv.grow c1 g2').view c2 e1, ru.view c2 e2, congrArg (Option.map PyData.bool) e3, fun w3 g3 est _ c3 r3 hr3 => ?_⟩
  cases hr3
  refine ⟨kk, rfl, ?_⟩
  cases kk with
  | true =>
    simp only [if_true] at q ⊢
    refine ⟨env, w3, _, Xm, rfl, (ho.grow hc g1').grow c1 (g2'.trans g3), c3, by rw [est]; exact q, fun z w4 hz g4 c4 r4 rz => ?_, px.grow (g1'.trans (g2'.trans g3))⟩
    obtain ⟨y', z', b, e4, e5, e6, q6⟩ := hz
    exact ⟨w4, y', z', .bool b, rfl, c4, ((ru.grow c2 g3).grow c3 g4).view c4 e4, rz.view c4 e5, congrArg (Option.map PyData.bool) e6, Ret.of pv (g1'.trans (g2'.trans (g3.trans g4))) q6⟩
  | false =>
    simp only [Bool.false_eq_true, if_false] at q ⊢
    exact pv (.d (.bool false)) w3 (by rw [est]; exact q) (g1'.trans (g2'.trans g3)) c3 _ (.bl _)
theorem rt_chain {ma mb mc : ME} {g1 g2 : PyData → PyData → Option Bool} {Q : Bool → Hp → Prop} (h : RT K mg W (testOf fun env st Q X => ma env st (fun v s1 => mb env s1 (fun u s2 => ∃ x y k, look s2 v = some x ∧ look s2 u = some y ∧ g1 x y = some k ∧
      if k = true then mc env s2 (fun z s3 => ∃ y' z' r, look s3 u = some y' ∧ look s3 z = some z' ∧ g2 y' z' = some r ∧ Q (.d (.bool r)) s3) X else Q (.d (.bool false)) s2) X) X) σ H Q) :
    tTest (tChain (rG K fun x y => (g1 x y).map .bool) (rG K fun x y => (g2 x y).map .bool) (RE K mg W ma) (RE K mg W mb) (RE K mg W mc)) σ H Q := by
  obtain ⟨env, w, Qm, Xm, rfl, ho, hc, hm, pv, px⟩ := h
  refine ⟨env, w, _, Xm, rfl, ho, hc, hm, fun v w1 hv g1' c1 r rv => ⟨env, w1, _, Xm, rfl, ho.grow hc g1', c1, hv, fun u w2 hu g2' c2 r2 ru => ?_, px.grow g1'⟩, px⟩
  obtain ⟨x, y, kk, e1, e2, e3, q⟩ := hu
  refine ⟨w2, x, y, .bool kk, rfl, c2, (rv.grow c1 g2').view c2 e1, ru.view c2 e2, congrArg (Option.map PyData.bool) e3, fun w3 g3 est _ c3 r3 hr3 => ?_⟩
  cases hr3
  refine ⟨kk, rfl, ?_⟩
  cases kk with
  | true =>
    simp only [if_true] at q ⊢
    refine ⟨env, w3, _, Xm, rfl, (ho.grow hc g1').grow c1 (g2'.trans g3), c3, by rw [est]; exact q, fun z w4 hz g4 c4 r4 rz => ?_, px.grow (g1'.trans (g2'.trans g3))⟩
    obtain ⟨y', z', b, e4, e5, e6, z2, b2, e7, e8, q6⟩ := hz
    cases e7
    cases e8
    refine ⟨w4, y', z', .bool b, rfl, c4, ((ru.grow c2 g3).grow c3 g4).view c4 e4, rz.view c4 e5, congrArg (Option.map PyData.bool) e6, fun w5 g5 est5 _ c5 r5 hr5 => ?_⟩
    cases hr5
    exact ⟨b, rfl, pv b w5 (by rw [est5]; exact q6) (g1'.trans (g2'.trans (g3.trans (g4.trans g5)))) c5⟩
  | false =>
    simp only [Bool.false_eq_true, if_false] at q ⊢
    obtain ⟨z2, b2, e7, e8, q6⟩ := q
    cases e7
    cases e8
    exact ⟨false, rfl, pv false w3 (by rw [est]; exact q6) (g1'.trans (g2'.trans g3)) c3⟩
theorem snd_chain {o1 o2 : CmpOp} {a b c : E} (ha : SndE T a) (hb : SndE T b) (hc : SndE T c) : SndE T (.chain o1 o2 a b c) := by
  intro X N sc k W C p h
  simp only [mE] at h
  split at h
  · rename_i l q1 q2 m r pos
    obtain ⟨h, h5⟩ := and_iff h
    obtain ⟨h, h4⟩ := and_iff h
    obtain ⟨h, h3⟩ := and_iff h
    obtain ⟨h1, h2⟩ := and_iff h
    have e1 : q1 = o1 := dec_of h1
    have e2 : q2 = o2 := dec_of h2
    subst e1
    subst e2
    have hm := lmarks_off (p := m) (mE_nse h5) q1 q2
    exact ⟨PE.imp (pe_chain (cmp_all C.units q1) (cmp_all C.units q2) (ha C l h3).1 (hb C m h4).1 (hc C r h5).1 hm) fun _ _ _ q => re_chain q,
      PT.imp (pt_chain (cmp_all C.units q1) (cmp_all C.units q2) (ha C l h3).1 (hb C m h4).1 (hc C r h5).1 hm) fun _ _ _ q => rt_chain q⟩
  · cases h

/-! ### lists of expressions -/
theorem ra_nil {Q : List V → Hp → Prop} (h : RA K mg W (fun _ st Q _ => Q [] st) σ H Q) : tNil σ H Q := by
  obtain ⟨env, w, Qm, Xm, rfl, ho, hc, hm, pv, px⟩ := h
  exact pv [] w hm (.refl w) hc [] .nil
theorem ra_cons {m : ME} {ms : MA} {Q : List V → Hp → Prop} (h : RA K mg W (fun env st Q X => m env st (fun v s => ms env s (fun vs s' => Q (v :: vs) s') X) X) σ H Q) : tCons (RE K mg W m) (RA K mg W ms) σ H Q := by
  obtain ⟨env, w, Qm, Xm, rfl, ho, hc, hm, pv, px⟩ := h
  exact ⟨env, w, _, Xm, rfl, ho, hc, hm, fun v w1 hv g1 c1 r rv => ⟨env, w1, _, Xm, rfl, ho.grow hc g1, c1, hv, fun vs w2 hvs g2 c2 rs rvs => pv (v :: vs) w2 hvs (g1.trans g2) c2 (r :: rs) (.cons (rv.grow c1 g2) rvs), px.grow g1⟩, px⟩
theorem re_and {m ms : ME} {Q : VK} (h : RE K mg W (fun env st Q X => m env st (fun v s => ∃ x b, look s v = some x ∧ truF x = some b ∧ if b = true then ms env s Q X else Q v s) X) σ H Q) : tAndT K (RE K mg W m) (RE K mg W ms) σ H Q := by
  obtain ⟨env, w, Qm, Xm, rfl, ho, hc, hm, pv, px⟩ := h
  refine ⟨env, w, _, Xm, rfl, ho, hc, hm, fun v w1 hv g1 c1 r rv => ?_, px⟩
  obtain ⟨x, b, e1, e2, q⟩ := hv
  refine ⟨b, (rv.view c1 e1).tru e2, ?_⟩
  cases b with
  | true =>
    simp only [if_true] at q ⊢
    exact ⟨env, w1, _, Xm, rfl, ho.grow hc g1, c1, q, pv.grow g1, px.grow g1⟩
  | false =>
    simp only [Bool.false_eq_true, if_false] at q ⊢
    exact pv v w1 q g1 c1 r rv
theorem re_or {m ms : ME} {Q : VK} (h : RE K mg W (fun env st Q X => m env st (fun v s => ∃ x b, look s v = some x ∧ truF x = some b ∧ if b = true then Q v s else ms env s Q X) X) σ H Q) : tOrT K (RE K mg W m) (RE K mg W ms) σ H Q := by
  obtain ⟨env, w, Qm, Xm, rfl, ho, hc, hm, pv, px⟩ := h
  refine ⟨env, w, _, Xm, rfl, ho, hc, hm, fun v w1 hv g1 c1 r rv => ?_, px⟩
  obtain ⟨x, b, e1, e2, q⟩ := hv
  refine ⟨b, (rv.view c1 e1).tru e2, ?_⟩
  cases b with
  | false =>
    simp only [Bool.false_eq_true, if_false] at q ⊢
    exact ⟨env, w1, _, Xm, rfl, ho.grow hc g1, c1, q, pv.grow g1, px.grow g1⟩
  | true =>
    simp only [if_true] at q ⊢
    exact pv v w1 q g1 c1 r rv
theorem rt_and {m ms : MT} {Q : Bool → Hp → Prop} (h : RT K mg W (fun env st Q X => m env st (fun b s => if b = true then ms env s Q X else Q false s) X) σ H Q) : tAnd (RT K mg W m) (RT K mg W ms) σ H Q := by
  obtain ⟨env, w, Qm, Xm, rfl, ho, hc, hm, pv, px⟩ := h
  refine ⟨env, w, _, Xm, rfl, ho, hc, hm, fun b w1 q g1 c1 => ?_, px⟩
  cases b with
  | true =>
    simp only [if_true] at q ⊢
    exact ⟨env, w1, _, Xm, rfl, ho.grow hc g1, c1, q, pv.grow g1, px.grow g1⟩
  | false =>
    simp only [Bool.false_eq_true, if_false] at q ⊢
    exact pv false w1 q g1 c1
theorem rt_or {m ms : MT} {Q : Bool → Hp → Prop} (h : RT K mg W (fun env st Q X => m env st (fun b s => if b = true then Q true s else ms env s Q X) X) σ H Q) : tOr (RT K mg W m) (RT K mg W ms) σ H Q := by
  obtain ⟨env, w, Qm, Xm, rfl, ho, hc, hm, pv, px⟩ := h
  refine ⟨env, w, _, Xm, rfl, ho, hc, hm, fun b w1 q g1 c1 => ?_, px⟩
  cases b with
  | false =>
    simp only [Bool.false_eq_true, if_false] at q ⊢
    exact ⟨env, w1, _, Xm, rfl, ho.grow hc g1, c1, q, pv.grow g1, px.grow g1⟩
  | true =>
    simp only [if_true] at q ⊢
    exact pv true w1 q g1 c1
theorem re_false {p : Expr} : PE X p (RE X.K X.mg W fun _ _ _ _ => False) := ⟨fun pins s σ H Q I h => by
  obtain ⟨_, _, _, _, _, _, _, z, _⟩ := h
  exact z.elim⟩
theorem rt_false {p : Expr} : PW X p (RT X.K X.mg W fun _ _ _ _ => False) := ⟨fun wh pins s σ H Q I h => by
  obtain ⟨_, _, _, _, _, _, _, z, _⟩ := h
  exact z.elim⟩
theorem snd_nil : SndL T .nil := by
  intro X N sc k W C ps h
  cases ps with
  | cons _ _ => simp [mEL] at h
  | nil => exact ⟨PA.imp pa_nil fun _ _ _ q => ra_nil q, fun pos => ⟨re_false, re_false, rt_false, rt_false⟩⟩
theorem snd_cons {e : E} {es : EL} (he : SndE T e) (hes : SndL T es) : SndL T (.cons e es) := by
  intro X N sc k W C ps h
  cases ps with
  | nil => simp [mEL] at h
  | cons p ps =>
    simp only [mEL] at h
    obtain ⟨h1, h2⟩ := and_iff h
    obtain ⟨pe, pt⟩ := he C p h1
    obtain ⟨pa, rest⟩ := hes C ps h2
    refine ⟨PA.imp (pa_cons pe pa (star_cons (mE_nst h1))) fun _ _ _ q => ra_cons q, fun pos => ?_⟩
    cases es with
    | nil =>
      cases ps with
      | cons _ _ => simp [mEL] at h2
      | nil => exact ⟨pe_one pe, pe_one pe, pw_and1 pt, pw_or1 pt⟩
    | cons e2 es2 =>
      cases ps with
      | nil => simp [mEL] at h2
      | cons p2 ps2 =>
        obtain ⟨r1, r2, r3, r4⟩ := rest pos
        exact ⟨PE.imp (pe_andT pe r1) fun _ _ _ q => re_and q, PE.imp (pe_orT pe r2) fun _ _ _ q => re_or q, PW.imp (pw_and pt r3) fun _ _ _ q => rt_and q, PW.imp (pw_or pt r4) fun _ _ _ q => rt_or q⟩
theorem snd_bop {op : BoolOp} {es : EL} (h0 : SndL T es) : SndE T (.bop op es) := by
  intro X N sc k W C p h
  simp only [mE] at h
  split at h
  · rename_i o xs pos
    obtain ⟨h1, h2⟩ := and_iff h
    have e1 : o = op := dec_of h1
    subst e1
    obtain ⟨r1, r2, r3, r4⟩ := (h0 C xs h2).2 pos
    cases o with
    | And => exact ⟨r1, r3.pt⟩
    | Or => exact ⟨r2, r4.pt⟩
  · cases h
theorem re_ite {mt : MT} {ma mb : ME} {Q : VK} (h : RE K mg W (fun env st Q X => mt env st (fun k s => if k = true then ma env s Q X else mb env s Q X) X) σ H Q) : tIf (RT K mg W mt) (RE K mg W ma) (RE K mg W mb) σ H Q := by
  obtain ⟨env, w, Qm, Xm, rfl, ho, hc, hm, pv, px⟩ := h
  refine ⟨env, w, _, Xm, rfl, ho, hc, hm, fun b w1 q g1 c1 => ?_, px⟩
  cases b with
  | true =>
    simp only [if_true] at q ⊢
    exact ⟨env, w1, _, Xm, rfl, ho.grow hc g1, c1, q, pv.grow g1, px.grow g1⟩
  | false =>
    simp only [Bool.false_eq_true, if_false] at q ⊢
    exact ⟨env, w1, _, Xm, rfl, ho.grow hc g1, c1, q, pv.grow g1, px.grow g1⟩
theorem rt_ite {mt ma mb : MT} {Q : Bool → Hp → Prop} (h : RT K mg W (fun env st Q X => mt env st (fun k s => if k = true then ma env s Q X else mb env s Q X) X) σ H Q) : RT K mg W mt σ H fun c H1 => if c = true then RT K mg W ma σ H1 Q else RT K mg W mb σ H1 Q := by
  obtain ⟨env, w, Qm, Xm, rfl, ho, hc, hm, pv, px⟩ := h
  refine ⟨env, w, _, Xm, rfl, ho, hc, hm, fun b w1 q g1 c1 => ?_, px⟩
  cases b with
  | true =>
    simp only [if_true] at q ⊢
    exact ⟨env, w1, _, Xm, rfl, ho.grow hc g1, c1, q, pv.grow g1, px.grow g1⟩
  | false =>
    simp only [Bool.false_eq_true, if_false] at q ⊢
    exact ⟨env, w1, _, Xm, rfl, ho.grow hc g1, c1, q, pv.grow g1, px.grow g1⟩
theorem pt_ifExp {t x y : Expr} {tt tx ty : TT} {pos : Pos} (ht : PT X t tt) (hx : PT X x tx) (hy : PT X y ty) : PT X (.IfExp t x y pos) (fun σ H Q => tt σ H fun c H1 => if c = true then tx σ H1 Q else ty σ H1 Q) := by
  refine ⟨fun pins s σ H Q I h => ?_⟩
  show wpAny _ _ (isTrue t X.env (eval t X.env) >>= fun c => if c = true then isTrue x X.env (eval x X.env) else isTrue y X.env (eval y X.env)) _ _ _
  refine wpAny_bind (thn (ht.run pins s σ H _ I h) fun c s1 ⟨H1, I1, q1⟩ => ?_)
  cases c with
  | true => exact hx.run pins s1 σ H1 Q I1 q1
  | false => exact hy.run pins s1 σ H1 Q I1 q1
theorem snd_ite {c a b : E} (hc : SndE T c) (ha : SndE T a) (hb : SndE T b) : SndE T (.ite c a b) := by
  intro X N sc k W C p h
  simp only [mE] at h
  split at h
  · rename_i t x y pos
    obtain ⟨h, h3⟩ := and_iff h
    obtain ⟨h1, h2⟩ := and_iff h
    have p1 := hc C t h1
    have p2 := ha C x h2
    have p3 := hb C y h3
    exact ⟨PE.imp (pe_ifExp p1.2 p2.1 p3.1) fun _ _ _ q => re_ite q, PT.imp (pt_ifExp p1.2 p2.2 p3.2) fun _ _ _ q => rt_ite q⟩
  · cases h
theorem rds_of {w : Wd} : ∀ {rs : List V} {vs : List EV} {ds : List PyData}, RVs K w rs vs → datas vs = some ds → RDs K w rs ds
  | _, _, _, .nil, h => by cases h; exact .nil
  | _, .d x :: vs, ds, .cons h t, e => by
    obtain ⟨xs, e1, rfl⟩ := Option.map_eq_some_iff.mp (show (datas vs).map (x :: ·) = some ds from e)
    exact .cons h (rds_of t e1)
  | _, .cell _ :: _, _, .cons _ _, e => by cases e
theorem re_tup {ms : MA} {Q : VK} (h : RE K mg W (fun env st Q X => ms env st (fun vs s => ∃ ds, datas vs = some ds ∧ ds.length ≤ line ∧ Q (.d (.tuple ds)) s) X) σ H Q) : tTup (RA K mg W ms) σ H Q := by
  obtain ⟨env, w, Qm, Xm, rfl, ho, hc, hm, pv, px⟩ := h
  refine ⟨env, w, _, Xm, rfl, ho, hc, hm, fun vs w1 hv g1 c1 rs rv => ?_, px⟩
  obtain ⟨ds, e1, e2, q⟩ := hv
  have rd := rds_of rv e1
  exact ⟨by rw [sizeLine_eq, rd.length]; exact e2, (Ret.of pv g1 q).tup c1 rd⟩
theorem snd_tup {es : EL} (h0 : SndL T es) : SndE T (.tup es) := by
  intro X N sc k W C p h
  simp only [mE] at h
  split at h
  · exact plain_pt (fun _ => rfl) (PE.imp (pe_tup (h0 C _ h).1) fun _ _ _ q => re_tup q)
  · cases h
theorem re_lst {cell : Bool} {ms : MA} {Q : VK} (h : RE K mg W (fun env st Q X => ms env st (fun vs s => ∃ ds, datas vs = some ds ∧ ds.length ≤ line ∧ if cell = true then Q (.cell s.length) (s ++ [ds]) else Q (.d (.list ds)) s) X) σ H Q) : tLst (RA K mg W ms) σ H Q := by
  obtain ⟨env, w, Qm, Xm, rfl, ho, hc, hm, pv, px⟩ := h
  refine ⟨env, w, _, Xm, rfl, ho, hc, hm, fun vs w1 hv g1 c1 rs rv => ?_, px⟩
  obtain ⟨ds, e1, e2, q⟩ := hv
  have rd := rds_of rv e1
  refine ⟨by rw [sizeLine_eq, rd.length]; exact e2, ?_⟩
  cases cell with
  | false => exact (Ret.of pv g1 q).lst c1 rd
  | true =>
    intro p hp
    simp only [if_true] at q
    refine pv (.cell w1.st.length) (w1.more p ds rs) q (g1.trans (Grow.more c1 hp)) (c1.more hp rd) (.ref p) ⟨by simp [Wd.more], by simp [Wd.more]⟩
theorem snd_lst {cell : Bool} {es : EL} (h0 : SndL T es) : SndE T (.lst cell es) := by
  intro X N sc k W C p h
  simp only [mE] at h
  split at h
  · exact plain_pt (fun _ => rfl) (PE.imp (pe_lst (h0 C _ h).1) fun _ _ _ q => re_lst q)
  · cases h
theorem re_dct0 {Q : VK} (h : RE K mg W (fun _ st Q _ => Q (.d (.dict [])) st) σ H Q) : tDNewK σ H Q := by
  obtain ⟨env, w, Qm, Xm, rfl, ho, hc, hm, pv, px⟩ := h
  intro p hp
  exact pv _ { w with H := upd w.H p (.dK []) } hm (Grow.alloc hc hp) (hc.alloc hp) (.ref p) (.dct upd_same (fun z => hc.fresh hp (z.elim .inl .inr)) .nil)
theorem snd_dct0 : SndE T .dct0 := by
  intro X N sc k W C p h
  simp only [mE] at h
  split at h
  · exact plain_pt (fun _ => rfl) (PE.imp pe_dnewK fun _ _ _ q => re_dct0 q)
  · cases h
theorem snd_idx {a i : E} (ha : SndE T a) (hi : SndE T i) : SndE T (.idx a i) := by
  intro X N sc k W C p h
  simp only [mE] at h
  split at h
  · obtain ⟨h1, h2⟩ := and_iff h
    exact plain_pt (fun _ => rfl) (PE.imp (pe_ix ix_all (ha C _ h1).1 (hi C _ h2).1 (plain_ix (mE_nsl h2))) fun _ _ _ q => re_strict2 q)
  · cases h
theorem snd_ono : SndO T .none := by
  intro X N sc k W C p h
  cases p with
  | none =>
    refine PO.imp po_none fun _ _ _ q => ?_
    obtain ⟨env, w, Qm, Xm, rfl, ho, hc, hm, pv, px⟩ := q
    exact pv none w hm (.refl w) hc
  | some _ => simp [mEO] at h
theorem snd_oso {e : E} (he : SndE T e) : SndO T (.some e) := by
  intro X N sc k W C p h
  cases p with
  | none => simp [mEO] at h
  | some p =>
    refine PO.imp (po_some (he C p h).1) fun _ _ _ q => ?_
    obtain ⟨env, w, Qm, Xm, rfl, ho, hc, hm, pv, px⟩ := q
    refine ⟨env, w, _, Xm, rfl, ho, hc, hm, fun v w1 hv g1 c1 r rv => ?_, px⟩
    obtain ⟨i, rfl, q⟩ := hv
    cases rv
    exact ⟨i, rfl, pv (some i) w1 q g1 c1⟩
theorem re_slc {m : ME} {ml mh : Ev → ST → (Option Int → ST → Prop) → QX → Prop} {Q : VK} (h : RE K mg W (fun env st Q X => m env st (fun v s1 => ml env s1 (fun l s2 => mh env s2 (fun h s3 => ∃ x r, look s3 v = some x ∧ slcF x l h = some r ∧ Q (.d r) s3) X) X) X) σ H Q) :
    tSl (rGs K) (RE K mg W m) (RO K mg W ml) (RO K mg W mh) σ H Q := by
  obtain ⟨env, w, Qm, Xm, rfl, ho, hc, hm, pv, px⟩ := h
  refine ⟨env, w, _, Xm, rfl, ho, hc, hm, fun v w1 hv g1 c1 r rv => ⟨env, w1, _, Xm, rfl, ho.grow hc g1, c1, hv, fun l w2 hl g2 c2 => ⟨env, w2, _, Xm, rfl, (ho.grow hc g1).grow c1 g2, c2, hl, fun u w3 hu g3 c3 => ?_, px.grow (g1.trans g2)⟩, px.grow g1⟩, px⟩
  obtain ⟨x, z, e1, e2, q⟩ := hu
  exact ⟨w3, x, z, rfl, c3, ((rv.grow c1 g2).grow c2 g3).view c3 e1, e2, Ret.of pv (g1.trans (g2.trans g3)) q⟩
theorem snd_slc {a : E} {lo hi : EO} (ha : SndE T a) (hl : SndO T lo) (hh : SndO T hi) : SndE T (.slc a lo hi) := by
  intro X N sc k W C p h
  simp only [mE] at h
  split at h
  · obtain ⟨h, h3⟩ := and_iff h
    obtain ⟨h1, h2⟩ := and_iff h
    exact plain_pt (fun _ => rfl) (PE.imp (pe_slice sl_all (ha C _ h1).1 (hl C _ h2) (hh C _ h3)) fun _ _ _ q => re_slc q)
  · cases h
theorem re_call {ms : MA} {n : Nat} {sp : Spec} {Q : VK} (h : RE K mg W (fun env st Q X => ms env st (fun vs s => vs.length = n ∧ sp vs s Q X) X) σ H Q) : tCallS (spOf K mg n sp) (WE W) (RA K mg W ms) σ H Q := by
  obtain ⟨env, w, Qm, Xm, rfl, ho, hc, hm, pv, px⟩ := h
  exact ⟨env, w, _, Xm, rfl, ho, hc, hm, fun vs w1 hv g1 c1 rs rv => ⟨w1, vs, Qm, Xm, rfl, c1, rv, hv.1, hv.2, pv.grow g1, px.grow g1⟩, px⟩
theorem snd_call {f : Nat} {es : EL} (h0 : SndL T es) : SndE T (.call f es) := by
  intro X N sc k W C p h
  simp only [mE] at h
  split at h
  · rename_i x q y ys pos
    obtain ⟨h, h3⟩ := and_iff h
    obtain ⟨h1, h2⟩ := and_iff h
    cases e : T.fns[f]? with
    | none => rw [e] at h1; cases h1
    | some t =>
      obtain ⟨nm, n, sp⟩ := t
      rw [e] at h1
      have e1 : nm = x := dec_of h1
      subst e1
      obtain ⟨fa, fd, ps, G, hm, hk, hb⟩ := C.fa.fns f _ e
      obtain ⟨g1, g2, g3⟩ := C.gl_ h2
      have hn := mEL_nst h3
      have hn' : nst y = true ∧ ys.all nst = true := by simpa using hn
      refine plain_pt (fun _ => rfl) (PE.imp (pe_gcall G C.gd.room C.gd.gd g1 hm hk hb (fun σ => passAt C.tk σ) (h0 C _ h3).1 g2 (star_cons hn'.1) (star_all hn'.2)) fun σ H Q q => ?_)
      refine re_call ?_
      obtain ⟨env, w, Qm, Xm, rfl, ho, hc, hm, pv, px⟩ := q
      obtain ⟨nm', n', sp', e2, hm⟩ := hm
      rw [e] at e2
      cases e2
      exact ⟨env, w, Qm, Xm, rfl, ho, hc, hm, pv, px⟩
  · cases h
theorem re_blt {b : Blt} {ms : MA} {Q : VK} (h : RE K mg W (fun env st Q X => ms env st (fun vs s => ∃ ds r, looks s vs = some ds ∧ bltF b ds = some r ∧ Q (.d r) s) X) σ H Q) : tCB (rGb K b) (RA K mg W ms) σ H Q := by
  obtain ⟨env, w, Qm, Xm, rfl, ho, hc, hm, pv, px⟩ := h
  refine ⟨env, w, _, Xm, rfl, ho, hc, hm, fun vs w1 hv g1 c1 rs rv => ?_, px⟩
  obtain ⟨ds, r, e1, e2, q⟩ := hv
  exact ⟨w1, ds, r, rfl, c1, rv.views c1 e1, e2, Ret.of pv g1 q⟩
theorem snd_blt {b : Blt} {es : EL} (h0 : SndL T es) : SndE T (.blt b es) := by
  intro X N sc k W C p h
  simp only [mE] at h
  split at h
  · rename_i x q y ys pos
    obtain ⟨h, h4⟩ := and_iff h
    obtain ⟨h, h3⟩ := and_iff h
    obtain ⟨h1, h2⟩ := and_iff h
    have e1 : x = b.name := dec_of h1
    subst e1
    obtain ⟨g1, g2, g3⟩ := C.gl_ h2
    have hm := C.fa.blt _ (dec_of h3)
    have hn := mEL_nst h4
    have hn' : nst y = true ∧ ys.all nst = true := by simpa using hn
    have pa := (h0 C _ h4).1
    have fn : ∀ {id : String}, bootBuiltins b.name = some (.builtin id) → CallR X (.builtin id) (rGb X.K b) → PE X (.Call (.Name b.name q) (y :: ys) [] pos) (RE X.K X.mg W (den T (.blt b es)).v) := fun hv hc =>
      PE.imp (pe_callB hc g1 hm hv pa g3 g2 (star_cons hn'.1) (star_all hn'.2)) fun _ _ _ q => re_blt q
    have ty : ∀ {t : String}, bootBuiltins b.name = some (.type t) → CallR X (.type t) (rGb X.K b) → PE X (.Call (.Name b.name q) (y :: ys) [] pos) (RE X.K X.mg W (den T (.blt b es)).v) := fun hv hc =>
      PE.imp (pe_callTy hc g1 hm hv pa g3 g2 (star_cons hn'.1) (star_all hn'.2)) fun _ _ _ q => re_blt q
    refine plain_pt (fun _ => rfl) ?_
    cases b with
    | len => exact fn (by decide +kernel) blt_len
    | int => exact ty (by decide +kernel) blt_int
    | abs => exact fn (by decide +kernel) blt_abs
    | repr => exact fn (by decide +kernel) (blt_repr C.gd.gd C.units2)
    | reprd => exact fn (by decide +kernel) (blt_reprd C.gd.gd C.units2)
    | sum => exact fn (by decide +kernel) (blt_sum C.gd.calm)
    | max => exact fn (by decide +kernel) (blt_max C.gd.calm)
    | min => exact fn (by decide +kernel) (blt_min C.gd.calm)
    | list => exact ty (by decide +kernel) blt_list
    | tuple => exact ty (by decide +kernel) blt_tuple
    | bool => exact ty (by decide +kernel) blt_bool
    | sorted => exact fn (by decide +kernel) (blt_sorted C.units2)
  · cases h
theorem re_isi {m : ME} {t : String} {Q : VK} (h : RE K mg W (strict1 m fun x => (isiF x t).map .bool) σ H Q) :
    tCB (fun us H Q => ∃ w x b r, w.H = H ∧ COk K w ∧ us = [r, .ty t] ∧ VW K w r x ∧ isiF x t = some b ∧ Q (.bl b) H) (tCons (RE K mg W m) (tCons (tC (.ty t)) tNil)) σ H Q := by
  obtain ⟨env, w, Qm, Xm, rfl, ho, hc, hm, pv, px⟩ := h
  refine ⟨env, w, _, Xm, rfl, ho, hc, hm, fun v w1 hv g1 c1 r rv => ?_, px⟩
  obtain ⟨x, z, e1, e2, q⟩ := hv
  obtain ⟨b, e3, rfl⟩ := Option.map_eq_some_iff.mp e2
  exact ⟨w1, x, b, r, rfl, c1, rfl, rv.view c1 e1, e3, pv _ w1 q g1 c1 _ (.bl _)⟩
theorem boot_types (t : String) (h : t ∈ ["int", "bool", "str", "list", "tuple", "dict"]) : bootBuiltins (Str.ofString t) = some (.type t) := by
  simp only [List.mem_cons, List.not_mem_nil, or_false] at h
  rcases h with rfl | rfl | rfl | rfl | rfl | rfl <;> decide +kernel
theorem snd_isi {a : E} {t : String} (ha : SndE T a) : SndE T (.isi a t) := by
  intro X N sc k W C p h
  simp only [mE] at h
  split at h
  · rename_i x q e y q2 pos
    obtain ⟨h, h8⟩ := and_iff h
    obtain ⟨h, h7⟩ := and_iff h
    obtain ⟨h, h6⟩ := and_iff h
    obtain ⟨h, h5⟩ := and_iff h
    obtain ⟨h, h4⟩ := and_iff h
    obtain ⟨h, h3⟩ := and_iff h
    obtain ⟨h1, h2⟩ := and_iff h
    have e1 : x = "isinstance" := dec_of h1
    have e2 : y = Str.ofString t := dec_of h4
    subst e1
    subst e2
    obtain ⟨g1, g2, g3⟩ := C.gl_ h2
    obtain ⟨k1, k2, k3⟩ := C.gl_ h5
    refine plain_pt (fun _ => rfl) (PE.imp (pe_callB (isi_all t) g1 (C.fa.blt _ (dec_of h3)) (by decide +kernel) (pa_cons (ha C e h8).1 (pa_cons (pe_bltn (v := .ty t) k1 (C.fa.blt _ (dec_of h6)) (boot_types t (dec_of h7)) rfl k3 k2) pa_nil rfl) (star_cons (mE_nst h8))) g3 g2 (star_cons (mE_nst h8)) rfl) fun _ _ _ q => re_isi q)
  · cases h
theorem snd_bits {a : E} (ha : SndE T a) : SndE T (.bits a) := by
  intro X N sc k W C p h
  simp only [mE] at h
  split at h
  · rename_i e x q pos
    obtain ⟨h, h3⟩ := and_iff h
    obtain ⟨h1, h2⟩ := and_iff h
    have e1 : x = "bit_length" := dec_of h1
    subst e1
    refine plain_pt (fun _ => rfl) (PE.imp (pe_bits (ha C e h3).1 (att_base (mE_nab h3) _ _ _) h2) fun σ H Q q => ?_)
    obtain ⟨env, w, Qm, Xm, rfl, ho, hc, hm, pv, px⟩ := q
    refine ⟨env, w, _, Xm, rfl, ho, hc, hm, fun v w1 hv g1 c1 r rv => ?_, px⟩
    obtain ⟨z, y, e1, e2, q⟩ := hv
    have vw := rv.view c1 e1
    cases z with
    | int i =>
      cases vw
      cases e2
      exact ⟨i, rfl, pv _ w1 q g1 c1 _ (.int _)⟩
    | _ => cases e2
  · cases h
theorem re_binc {ma mb : ME} {g : PyData → PyData → Option PyData} {Q : VK} (h : RE K mg W (fun env st Q X => ma env st (fun v s1 => mb env s1 (fun u s2 => ∃ x y ds, look s2 v = some x ∧ look s2 u = some y ∧ g x y = some (.list ds) ∧ Q (.cell s2.length) (s2 ++ [ds])) X) X) σ H Q) :
    tOp (rGc K g) (RE K mg W ma) (RE K mg W mb) σ H Q := by
  obtain ⟨env, w, Qm, Xm, rfl, ho, hc, hm, pv, px⟩ := h
  refine ⟨env, w, _, Xm, rfl, ho, hc, hm, fun v w1 hv g1 c1 r rv => ⟨env, w1, _, Xm, rfl, ho.grow hc g1, c1, hv, fun u w2 hu g2 c2 r2 ru => ?_, px.grow g1⟩, px⟩
  obtain ⟨x, y, ds, e1, e2, e3, q⟩ := hu
  exact ⟨w2, x, y, ds, rfl, c2, (rv.grow c1 g2).view c2 e1, ru.view c2 e2, e3, fun p vs hp rd => pv (.cell w2.st.length) (w2.more p ds vs) q ((g1.trans g2).trans (Grow.more c2 hp)) (c2.more hp rd) (.ref p) ⟨by simp [Wd.more], by simp [Wd.more]⟩⟩
theorem snd_binc {op : Operator} {a b : E} (ha : SndE T a) (hb : SndE T b) : SndE T (.binc op a b) := by
  intro X N sc k W C p h
  simp only [mE] at h
  split at h
  · rename_i l o r pos
    obtain ⟨h, h3⟩ := and_iff h
    obtain ⟨h1, h2⟩ := and_iff h
    have e1 : o = op := dec_of h1
    subst e1
    exact plain_pt (fun _ => rfl) (PE.imp (pe_op (op_allc o) (ha C l h2).1 (hb C r h3).1) fun _ _ _ q => re_binc q)
  · cases h
theorem rd_rng {w : Wd} (a b : Int) : RDs K w (rgV a b) (rngP a (b - a).toNat) := by
  unfold rgV rngP
  generalize (List.range (b - a).toNat) = l
  induction l with
  | nil => exact .nil
  | cons x l ih => exact .cons (.int _) ih
theorem snd_lrng1 {a : E} (ha : SndE T a) : SndE T (.lrng1 a) := by
  intro X N sc k W C p h
  simp only [mE] at h
  split at h
  · rename_i x q1 y q2 z pos pos2
    obtain ⟨h, h7⟩ := and_iff h
    obtain ⟨h, h6⟩ := and_iff h
    obtain ⟨h, h5⟩ := and_iff h
    obtain ⟨h, h4⟩ := and_iff h
    obtain ⟨h, h3⟩ := and_iff h
    obtain ⟨h1, h2⟩ := and_iff h
    have e1 : x = "list" := dec_of h1
    have e2 : y = "range" := dec_of h4
    subst e1
    subst e2
    obtain ⟨g1, _, _⟩ := C.gl_ h2
    obtain ⟨g2, _, _⟩ := C.gl_ h5
    refine plain_pt (fun _ => rfl) (PE.imp (pe_listRg C.gd.calm g1 (C.fa.blt _ (dec_of h3)) (prg_1 g2 (C.fa.blt _ (dec_of h6)) (ha C z h7).1 (star_cons (mE_nst h7))) rfl) fun σ H Q q => ?_)
    obtain ⟨env, w, Qm, Xm, rfl, ho, hc, hm, pv, px⟩ := q
    refine ⟨env, w, _, Xm, rfl, ho, hc, hm, fun v w1 hv g1 c1 r rv => ?_, px⟩
    obtain ⟨j, rfl, ⟨b1, b2, b3⟩, q⟩ := hv
    cases rv
    refine ⟨j, rfl, ⟨by decide, by decide, b1, b2, by omega⟩, ?_⟩
    have e : rngP 0 j.toNat = rngP 0 (j - 0).toNat := by rw [Int.sub_zero]
    rw [e] at q
    exact (Ret.of pv g1 q).lst c1 (rd_rng 0 j)
  · cases h
theorem snd_lrng2 {a b : E} (ha : SndE T a) (hb : SndE T b) : SndE T (.lrng2 a b) := by
  intro X N sc k W C p h
  simp only [mE] at h
  split at h
  · rename_i x q1 y q2 z u pos pos2
    obtain ⟨h, h8⟩ := and_iff h
    obtain ⟨h, h7⟩ := and_iff h
    obtain ⟨h, h6⟩ := and_iff h
    obtain ⟨h, h5⟩ := and_iff h
    obtain ⟨h, h4⟩ := and_iff h
    obtain ⟨h, h3⟩ := and_iff h
    obtain ⟨h1, h2⟩ := and_iff h
    have e1 : x = "list" := dec_of h1
    have e2 : y = "range" := dec_of h4
    subst e1
    subst e2
    obtain ⟨g1, _, _⟩ := C.gl_ h2
    obtain ⟨g2, _, _⟩ := C.gl_ h5
    have st2 := star_cons (es := []) (env := X.env) (mE_nst h8)
    have st : starEach [z, u] X.env = (false, eval z X.env) :: starEach [u] X.env := star_cons (mE_nst h7)
    refine plain_pt (fun _ => rfl) (PE.imp (pe_listRg C.gd.calm g1 (C.fa.blt _ (dec_of h3)) (prg_2 g2 (C.fa.blt _ (dec_of h6)) (ha C z h7).1 (hb C u h8).1 st st2 (star_all (by simp [mE_nst h8]))) rfl) fun σ H Q q => ?_)
    obtain ⟨env, w, Qm, Xm, rfl, ho, hc, hm, pv, px⟩ := q
    refine ⟨env, w, _, Xm, rfl, ho, hc, hm, fun v w1 hv g1 c1 r rv => ⟨env, w1, _, Xm, rfl, ho.grow hc g1, c1, hv, fun u w2 hu g2 c2 r2 ru => ?_, px.grow g1⟩, px⟩
    obtain ⟨i, j, rfl, rfl, ⟨⟨b1, b2⟩, ⟨b3, b4⟩, b5⟩, q⟩ := hu
    cases rv
    cases ru
    exact ⟨i, j, rfl, rfl, ⟨b1, b2, b3, b4, by omega⟩, (Ret.of pv (g1.trans g2) q).lst c2 (rd_rng i j)⟩
  · cases h
/-! ### a call that looks at cells as data -/
def hideW (w : Wd) (B : Addr → Prop) : Wd := { ι := w.ι, st := [], H := w.H, F := fun b => w.F b ∨ (w.live b ∧ ¬ B b) }
theorem hide_cok {w : Wd} (c : COk K w) (B : Addr → Prop) : COk K (hideW w B) where
  cell := fun n xs e => by simp [hideW] at e
  inj := fun n m h => by simp [hideW] at h
  forb := fun b f => by
    refine ⟨?_, fun ⟨n, h, _⟩ => by simp [hideW] at h⟩
    rcases f with f | ⟨l, _⟩
    · exact (c.forb b f).1
    · obtain ⟨vs, e⟩ := c.live_lst l
      exact ⟨_, e⟩
theorem hide_keeps {w : Wd} (B : Addr → Prop) : ∀ b o, w.H b = some o → ¬ w.own b → (hideW w B).H b = some o ∧ ¬ (hideW w B).own b := fun b o e h => ⟨e, fun z => by
  rcases z with ⟨n, hn, _⟩ | f | ⟨l, _⟩
  · simp [hideW] at hn
  · exact h (.inr f)
  · exact h (.inl l)⟩
mutual
theorem RD.kp {w w' : Wd} (g : ∀ b o, w.H b = some o → ¬ w.own b → w'.H b = some o ∧ ¬ w'.own b) : ∀ (d : PyData) (v : V), RD K w v d → RD K w' v d
  | .none, _, .non => .non
  | .bool b, _, .bl _ => .bl b
  | .int i, _, .int _ => .int i
  | .str x, _, .str _ => .str x
  | .list ds, _, .lst h r => .lst (by
      rcases h with ⟨h, n⟩ | h
      · left
        rcases h with h | ⟨o, h⟩
        · exact ⟨.inl (g _ _ h n).1, (g _ _ h n).2⟩
        · exact ⟨.inr ⟨o, (g _ _ h n).1⟩, (g _ _ h n).2⟩
      · exact .inr h) (RDs.kp g ds _ r)
  | .tuple ds, _, .tup h r => .tup (by
      rcases h with ⟨h, n⟩ | h
      · left
        rcases h with h | ⟨o, h⟩
        · exact ⟨.inl (g _ _ h n).1, (g _ _ h n).2⟩
        · exact ⟨.inr ⟨o, (g _ _ h n).1⟩, (g _ _ h n).2⟩
      · exact .inr h) (RDs.kp g ds _ r)
  | .dict ps, _, .dct h n r => .dct (g _ _ h n).1 (g _ _ h n).2 (RDp.kp g ps _ r)
theorem RDs.kp {w w' : Wd} (g : ∀ b o, w.H b = some o → ¬ w.own b → w'.H b = some o ∧ ¬ w'.own b) : ∀ (ds : List PyData) (vs : List V), RDs K w vs ds → RDs K w' vs ds
  | [], _, .nil => .nil
  | d :: ds, _, .cons h t => .cons (RD.kp g d _ h) (RDs.kp g ds _ t)
theorem RDp.kp {w w' : Wd} (g : ∀ b o, w.H b = some o → ¬ w.own b → w'.H b = some o ∧ ¬ w'.own b) : ∀ (ps : List (PyData × PyData)) (kvs : List (Key × V)), RDp K w kvs ps → RDp K w' kvs ps
  | [], _, .nil => .nil
  | (_, d) :: ps, _, .cons h t => .cons (RD.kp g d _ h) (RDp.kp g ps _ t)
end
theorem hide_args {w : Wd} (c : COk K w) (B : Addr → Prop) : ∀ {rs : List V} {vs : List EV} {ds : List PyData}, (∀ n, EV.cell n ∈ vs → B (w.ι n)) → RVs K w rs vs → looks w.st vs = some ds → RVs K (hideW w B) rs (ds.map .d)
  | _, _, _, _, .nil, h => by cases h; exact .nil
  | _, v :: vs, ds, hb, .cons (v := r) h t, hl => by
    simp only [looks] at hl
    obtain ⟨x, e1, e2⟩ := Option.bind_eq_some_iff.mp hl
    obtain ⟨xs, e3, rfl⟩ := Option.map_eq_some_iff.mp e2
    refine .cons ?_ (hide_args c B (fun n hn => hb n (List.mem_cons_of_mem _ hn)) t e3)
    cases v with
    | d y =>
      have e' : y = x := Option.some.inj e1
      subst e'
      exact RD.kp (hide_keeps B) y r h
    | cell n =>
      obtain ⟨hn, rfl⟩ := h
      obtain ⟨ys, e4, rfl⟩ := Option.map_eq_some_iff.mp (show (w.st[n]?).map PyData.list = some x from e1)
      obtain ⟨us, h1, h2⟩ := c.cell n ys e4
      refine .lst (.inl ⟨.inl h1, ?_⟩) (RDs.kp (hide_keeps B) ys us h2)
      rintro (⟨m, hm, _⟩ | f | ⟨_, nb⟩)
      · simp [hideW] at hm
      · exact (c.forb _ f).2 ⟨n, hn, rfl⟩
      · exact nb (hb n (List.mem_cons_self ..))
def backW (w w' : Wd) : Wd := { w with H := w'.H }
section
variable {w w' : Wd} {B : Addr → Prop}
theorem back_keep (g : Grow (hideW w B) w') {b : Addr} {o : HO} (e : w.H b = some o) : w'.H b = some o := (g.keep b o e fun ⟨n, h, _⟩ => by simp [hideW] at h).1
theorem back_grow (g : Grow (hideW w B) w') : Grow w (backW w w') where
  len := Nat.le_refl _
  io := fun _ _ => rfl
  keep := fun b o e n => ⟨back_keep g e, n⟩
  there := fun b o e => ⟨o, back_keep g e⟩
  ff := rfl
theorem back_cok (c : COk K w) (g : Grow (hideW w B) w') : COk K (backW w w') where
  cell := fun n xs e => by
    obtain ⟨vs, h1, h2⟩ := c.cell n xs e
    exact ⟨vs, back_keep g h1, RDs.grow c (back_grow g) xs vs h2⟩
  inj := c.inj
  forb := fun b f => by
    obtain ⟨⟨o, e⟩, n⟩ := c.forb b f
    exact ⟨⟨o, back_keep g e⟩, n⟩
mutual
theorem back_rd (c : COk K w) (g : Grow (hideW w B) w') : ∀ (d : PyData) (v : V), noLst d = true → RD K w' v d → RD K (backW w w') v d
  | .none, _, _, .non => .non
  | .bool b, _, _, .bl _ => .bl b
  | .int i, _, _, .int _ => .int i
  | .str x, _, _, .str _ => .str x
  | .list ds, _, h, _ => by simp [noLst] at h
  | .tuple ds, _, hn, .tup (a := a) h r => .tup (by
      rcases h with ⟨h, n⟩ | h
      · left
        have key : ∀ o, w'.H a = some o → (∀ vs, o ≠ .lst vs) → ¬ (backW w w').own a := by
          rintro o e hl (l | f)
          · obtain ⟨vs, e2⟩ := (back_cok c g).live_lst l
            have e3 : w'.H a = some (.lst vs) := e2
            rw [e] at e3
            exact hl vs (Option.some.inj e3)
          · refine n (.inr ?_)
            rw [g.ff]
            exact .inl f
        rcases h with h | ⟨o, h⟩
        · exact ⟨.inl h, key _ h fun vs z => by cases z⟩
        · exact ⟨.inr ⟨o, h⟩, key _ h fun vs z => by cases z⟩
      · exact .inr h) (back_rds c g ds _ (by simpa [noLst] using hn) r)
  | .dict _, _, h, _ => by simp [noLst] at h
theorem back_rds (c : COk K w) (g : Grow (hideW w B) w') : ∀ (ds : List PyData) (vs : List V), noLst.noLsts ds = true → RDs K w' vs ds → RDs K (backW w w') vs ds
  | [], _, _, .nil => .nil
  | d :: ds, _, hn, .cons h t => by
    simp only [noLst.noLsts, Bool.and_eq_true] at hn
    exact .cons (back_rd c g d _ hn.1 h) (back_rds c g ds _ hn.2 t)
end
end
theorem looks_len {st : ST} : ∀ {vs : List EV} {ds : List PyData}, looks st vs = some ds → ds.length = vs.length
  | [], ds, h => by cases h; rfl
  | v :: vs, ds, h => by
    simp only [looks] at h
    obtain ⟨x, e1, e2⟩ := Option.bind_eq_some_iff.mp h
    obtain ⟨xs, e3, rfl⟩ := Option.map_eq_some_iff.mp e2
    rw [List.length_cons, List.length_cons, looks_len e3]
theorem re_callb {ms : MA} {n : Nat} {sp : Spec} {Q : VK} (h : RE K mg W (fun env st Q X => ms env st (fun vs s => ∃ ds, looks s vs = some ds ∧ vs.length = n ∧ sp (ds.map .d) [] (fun v s' => ∃ d, s' = [] ∧ v = .d d ∧ noLst d = true ∧ Q (.d d) s) (fun _ _ => False)) X) σ H Q) : tCallS (spOf K mg n sp) (WE W) (RA K mg W ms) σ H Q := by
  obtain ⟨env, w, Qm, Xm, rfl, ho, hc, hm, pv, px⟩ := h
  refine ⟨env, w, _, Xm, rfl, ho, hc, hm, fun vs w1 hv g1 c1 rs rv => ?_, px⟩
  obtain ⟨ds, e1, e2, hsp⟩ := hv
  let B : Addr → Prop := fun b => ∃ m, EV.cell m ∈ vs ∧ w1.ι m = b
  refine ⟨hideW w1 B, ds.map .d, _, _, rfl, hide_cok c1 B, hide_args c1 B (fun m hm => ⟨m, hm, rfl⟩) rv e1, by rw [List.length_map, looks_len e1, e2], hsp, fun v w' q g c r hr => ?_, fun _ _ _ _ z => z.elim⟩
  obtain ⟨d, hst, rfl, hd, q⟩ := q
  exact pv (.d d) (backW w1 w') q (g1.trans (back_grow g)) (back_cok c1 g) r (back_rd c1 g d r hd hr)
theorem snd_callb {f : Nat} {es : EL} (h0 : SndL T es) : SndE T (.callb f es) := by
  intro X N sc k W C p h
  simp only [mE] at h
  split at h
  · rename_i x q y ys pos
    obtain ⟨h, h3⟩ := and_iff h
    obtain ⟨h1, h2⟩ := and_iff h
    cases e : T.fns[f]? with
    | none => rw [e] at h1; cases h1
    | some t =>
      obtain ⟨nm, n, sp⟩ := t
      rw [e] at h1
      have e1 : nm = x := dec_of h1
      subst e1
      obtain ⟨fa, fd, ps, G, hm, hk, hb⟩ := C.fa.fns f _ e
      obtain ⟨g1, g2, g3⟩ := C.gl_ h2
      have hn := mEL_nst h3
      have hn' : nst y = true ∧ ys.all nst = true := by simpa using hn
      refine plain_pt (fun _ => rfl) (PE.imp (pe_gcall G C.gd.room C.gd.gd g1 hm hk hb (fun σ => passAt C.tk σ) (h0 C _ h3).1 g2 (star_cons hn'.1) (star_all hn'.2)) fun σ H Q q => ?_)
      refine re_callb ?_
      obtain ⟨env, w, Qm, Xm, rfl, ho, hc, hm, pv, px⟩ := q
      obtain ⟨nm', n', sp', e2, hm⟩ := hm
      rw [e] at e2
      cases e2
      exact ⟨env, w, Qm, Xm, rfl, ho, hc, hm, pv, px⟩
  · cases h
end
end Mini

/-! Mini, part G: targets, what is walked, list comprehensions. -/
namespace Mini
open PySem PySem.Spec PyProof.Rows L2

/-! ### slots forgotten -/
theorem wipe_in {σ : L2.St} {j : Nat} : ∀ {vs : List Nat}, j ∈ vs → (wipe σ vs)[j]? = if j < σ.length then some none else none
  | [], h => by simp at h
  | v :: vs, h => by
    unfold L2.wipe
    by_cases e : v = j
    · subst e
      by_cases hl : v < σ.length
      · rw [List.getElem?_set_self (by rw [wipe_length]; exact hl), if_pos hl]
      · rw [List.getElem?_eq_none (by rw [List.length_set, wipe_length]; omega), if_neg hl]
    · rw [List.getElem?_set_ne e]
      exact wipe_in ((List.mem_cons.mp h).elim (fun z => absurd z.symm e) id)
theorem wipe_set {σ : L2.St} {i : Nat} {x : Option V} {vs : List Nat} (h : i ∈ vs) : wipe (σ.set i x) vs = wipe σ vs := by
  refine List.ext_getElem? fun j => ?_
  by_cases hj : j ∈ vs
  · rw [wipe_in hj, wipe_in hj, List.length_set]
  · rw [wipe_out hj, wipe_out hj, List.getElem?_set_ne (fun e => hj (by rw [← e]; exact h))]
theorem wipe_wipe {σ : L2.St} {vs : List Nat} : wipe (wipe σ vs) vs = wipe σ vs := by
  refine List.ext_getElem? fun j => ?_
  by_cases hj : j ∈ vs
  · rw [wipe_in hj, wipe_in hj, wipe_length]
  · rw [wipe_out hj]

/-! ### targets -/
def StoreOk (X : Cx) (sc : Scope) : Prop := ∀ x, loc sc x = true → Loc X.env.scope x ∧ (X.fn x = true ∨ X.env.scope.names.lookup x = some .local)
def SndT (t : T) : Prop := ∀ {X : Cx} {N : List Str} {sc : Scope}, X.N = N → N.Nodup → X.calm = true → StoreOk X sc → ∀ p, mT N sc t p = true → PG X p (RG X.K t)
def SndTs (ts : TL) : Prop := ∀ {X : Cx} {N : List Str} {sc : Scope}, X.N = N → N.Nodup → X.calm = true → StoreOk X sc → ∀ ps, mTs N sc ts ps = true → PGs X ps (RGs X.K ts)
theorem mT_nst {N : List Str} {sc : Scope} {t : T} {p : Expr} (h : mT N sc t p = true) : nst p = true := by
  cases p <;> first | rfl | (cases t <;> simp [mT] at h)
theorem asg_cons {e : Expr} {es : List Expr} {env : Env} (h : nst e = true) : assignEach (e :: es) env = (false, assign e env) :: assignEach es env := by
  cases e <;> first | rfl | cases h
theorem mTs_asg {N : List Str} {sc : Scope} {env : Env} : ∀ {ts : TL} {ps : List Expr}, mTs N sc ts ps = true → (assignEach ps env).length = ps.length ∧ (assignEach ps env).findIdx? (·.1) = none
  | .nil, [], _ => ⟨rfl, rfl⟩
  | .nil, _ :: _, h => by simp [mTs] at h
  | .cons _ _, [], h => by simp [mTs] at h
  | .cons t ts, p :: ps, h => by
    simp only [mTs] at h
    obtain ⟨h1, h2⟩ := and_iff h
    obtain ⟨k1, k2⟩ := mTs_asg (env := env) h2
    rw [asg_cons (mT_nst h1)]
    refine ⟨by rw [List.length_cons, List.length_cons, k1], ?_⟩
    rw [List.findIdx?_cons, k2] <;> rfl
theorem mTs_len {N : List Str} {sc : Scope} : ∀ {ts : TL} {ps : List Expr} {xs : List PyData} {env e1 : Ev}, mTs N sc ts ps = true → bindTs ts xs env = some e1 → xs.length = ps.length
  | .nil, [], [], _, _, _, _ => rfl
  | .nil, _ :: _, _, _, _, h, _ => by simp [mTs] at h
  | .cons _ _, [], _, _, _, h, _ => by simp [mTs] at h
  | .nil, [], _ :: _, _, _, _, e => by simp [bindTs] at e
  | .cons _ _, _ :: _, [], _, _, _, e => by simp [bindTs] at e
  | .cons t ts, p :: ps, x :: xs, env, e1, h, e => by
    simp only [mTs] at h
    obtain ⟨h1, h2⟩ := and_iff h
    simp only [bindTs] at e
    obtain ⟨e2, _, e3⟩ := Option.bind_eq_some_iff.mp e
    rw [List.length_cons, List.length_cons, mTs_len h2 e3]
theorem snd_tvar (i : Nat) : SndT (.var i) := by
  intro X N sc hN nd hc hs p h
  cases p with
  | Name x pos =>
    simp only [mT] at h
    obtain ⟨h1, h2⟩ := and_iff h
    obtain ⟨l, f⟩ := hs x h2
    subst hN
    refine PG.imp (pg_name nd (dec_of h1) l f) fun v σ H Q q => ?_
    obtain ⟨env, w, x, e1, rfl, ho, hc, rd, hb, k⟩ := q
    simp only [bindT, Option.some.injEq] at hb
    subst hb
    exact k _ (ho.set i (v := .d x) rd) fun vs hv => wipe_set (hv i (by simp [slotsT]))
  | _ => simp [mT] at h
theorem pg_or {X : Cx} {e : Expr} {t1 t2 : TG} (h1 : PG X e t1) (h2 : PG X e t2) : PG X e (fun v σ H Q => t1 v σ H Q ∨ t2 v σ H Q) :=
  ⟨fun pins s σ H v u Q I r hq => hq.elim (h1.run pins s σ H v u Q I r) (h2.run pins s σ H v u Q I r)⟩
theorem snd_ttup {ts : TL} (h0 : SndTs ts) : SndT (.tup ts) := by
  intro X N sc hN nd hc hs p h
  cases p with
  | Tuple es kk pos =>
    simp only [mT] at h
    obtain ⟨k1, k2⟩ := mTs_asg (env := X.env) h
    refine PG.imp (pg_or (pg_tup hc (h0 hN nd hc hs es h) k1 k2) (pg_unl hc (h0 hN nd hc hs es h) k1 k2)) fun v σ H Q q => ?_
    obtain ⟨env, w, x, e1, rfl, ho, hcc, rd, hb, k⟩ := q
    cases x with
    | tuple xs =>
      cases rd with
      | tup h1 h2 =>
        simp only [bindT] at hb
        exact .inl ⟨_, _, rfl, h1.sq, by rw [h2.length]; exact mTs_len h hb, env, w, xs, e1, rfl, ho, hcc, h2, hb, k⟩
    | list xs =>
      cases rd with
      | lst h1 h2 =>
        simp only [bindT] at hb
        exact .inr ⟨_, _, rfl, h1.sq, by rw [h2.length]; exact mTs_len h hb, env, w, xs, e1, rfl, ho, hcc, h2, hb, k⟩
    | _ => simp [bindT] at hb
  | _ => simp [mT] at h
theorem snd_tnil : SndTs .nil := by
  intro X N sc hN nd hc hs ps h
  cases ps with
  | cons _ _ => simp [mTs] at h
  | nil =>
    refine PGs.imp pgs_nil fun vs σ H Q q => ?_
    obtain ⟨env, w, xs, e1, rfl, ho, hcc, rd, hb, k⟩ := q
    cases xs with
    | cons _ _ => simp [bindTs] at hb
    | nil =>
      cases rd
      simp only [bindTs, Option.some.injEq] at hb
      subst hb
      exact ⟨rfl, k σ ho fun _ _ => rfl⟩
theorem snd_tcons {t : T} {ts : TL} (h1 : SndT t) (h2 : SndTs ts) : SndTs (.cons t ts) := by
  intro X N sc hN nd hc hs ps h
  cases ps with
  | nil => simp [mTs] at h
  | cons p ps =>
    simp only [mTs] at h
    obtain ⟨k1, k2⟩ := and_iff h
    refine PGs.imp (pgs_cons (h1 hN nd hc hs p k1) (h2 hN nd hc hs ps k2) (by rw [asg_cons (mT_nst k1)]; rfl)) fun vs σ H Q q => ?_
    obtain ⟨env, w, xs, e1, rfl, ho, hcc, rd, hb, k⟩ := q
    cases xs with
    | nil => simp [bindTs] at hb
    | cons x xs =>
      cases rd with
      | cons r1 r2 =>
        simp only [bindTs] at hb
        obtain ⟨e2, b1, b2⟩ := Option.bind_eq_some_iff.mp hb
        exact ⟨_, _, rfl, env, w, x, e2, rfl, ho, hcc, r1, b1, fun σ1 ho1 w1 => ⟨e2, w, xs, e1, rfl, ho1, hcc, r2, b2, fun σ2 ho2 w2 => k σ2 ho2 fun vs hv =>
          (w2 vs fun i hi => hv i (by simp only [slotsTs]; exact List.mem_append_right _ hi)).trans (w1 vs fun i hi => hv i (by simp only [slotsTs]; exact List.mem_append_left _ hi))⟩⟩
mutual
theorem sndT : ∀ t : T, SndT t
  | .var i => snd_tvar i
  | .tup ts => snd_ttup (sndTs ts)
theorem sndTs : ∀ ts : TL, SndTs ts
  | .nil => snd_tnil
  | .cons t ts => snd_tcons (sndT t) (sndTs ts)
end

/-! ### iterators -/
section
variable {K : PySem.W.Frag} {w : Wd}
theorem itr_list {a : Addr} {vs : List V} {ds : List PyData} (h : SL K w a vs) (r : RDs K w vs ds) : ItR K w (Itl K a) ds fun _ => True := fun w' l c _ i => by
  have h' := h.later l
  have r' := RDs.later l ds vs r
  have n := r'.length
  refine ⟨fun hi => ⟨⟨vs, vs[i]'(by omega), h'.sq, List.getElem?_eq_getElem _⟩, fun x H' hy => ?_⟩, fun hi => ⟨vs, h'.sq, by omega⟩⟩
  obtain ⟨rfl, hx⟩ := hy
  obtain ⟨d, e, rd⟩ := r'.got (hx vs h'.sq)
  exact ⟨w', rfl, rfl, .refl w', c, d, e, rd⟩
theorem itr_cell {n : Nat} {xs : List PyData} (hn : n < w.st.length) : ItR K w (Itl K (w.ι n)) xs fun s => s[n]? = some xs := fun w' l c hk i => by
  obtain ⟨vs, h1, r'⟩ := c.cell n xs hk
  rw [l.io n hn] at h1
  have len := r'.length
  have sq : SqL K w'.H (w.ι n) vs := .inl (.inl h1)
  refine ⟨fun hi => ⟨⟨vs, vs[i]'(by omega), sq, List.getElem?_eq_getElem _⟩, fun x H' hy => ?_⟩, fun hi => ⟨vs, sq, by omega⟩⟩
  obtain ⟨rfl, hx⟩ := hy
  obtain ⟨d, e, rd⟩ := r'.got (hx vs sq)
  exact ⟨w', rfl, rfl, .refl w', c, d, e, rd⟩
theorem itr_tup {a : Addr} {vs : List V} {ds : List PyData} (h : TL_ K w a vs) (r : RDs K w vs ds) : ItR K w (Itt K a) ds fun _ => True := fun w' l c _ i => by
  have h' := h.later l
  have r' := RDs.later l ds vs r
  have n := r'.length
  refine ⟨fun hi => ⟨⟨vs, vs[i]'(by omega), h'.sq, List.getElem?_eq_getElem _⟩, fun x H' hy => ?_⟩, fun hi => ⟨vs, h'.sq, by omega⟩⟩
  obtain ⟨rfl, hx⟩ := hy
  obtain ⟨d, e, rd⟩ := r'.got (hx vs h'.sq)
  exact ⟨w', rfl, rfl, .refl w', c, d, e, rd⟩
theorem itr_rng (lo : Int) (n : Nat) : ItR K w (Itr lo n) (rngP lo n) fun _ => True := fun w' l c _ i => by
  have len : (rngP lo n).length = n := by simp [rngP]
  rw [len]
  refine ⟨fun hi => ⟨hi, fun x H' hy => ?_⟩, fun hi => hi⟩
  obtain ⟨rfl, rfl⟩ := hy
  exact ⟨w', rfl, rfl, .refl w', c, .int (lo + i), by simp [rngP, hi], .int _⟩
theorem enumP_get : ∀ (xs : List PyData) (k i : Nat) (x : PyData), xs[i]? = some x → (enumP k xs)[i]? = some (.tuple [.int ((k + i : Nat) : Int), x])
  | [], _, _, _, h => by simp at h
  | a :: r, k, 0, x, h => by
    have e : a = x := by simpa using h
    subst e
    simp [enumP]
  | a :: r, k, i + 1, x, h => by
    have ih := enumP_get r (k + 1) i x (by simpa using h)
    simp only [enumP, List.getElem?_cons_succ]
    rw [ih]
    congr 4
    simp
    omega
theorem enumP_len : ∀ (xs : List PyData) (k : Nat), (enumP k xs).length = xs.length
  | [], _ => rfl
  | a :: r, k => by simp only [enumP, List.length_cons, enumP_len r]
theorem itr_enum {a : Addr} {vs : List V} {ds : List PyData} (h : SL K w a vs) (r : RDs K w vs ds) : ItR K w (Ite K a) (enumP 0 ds) fun _ => True := fun w' l c _ i => by
  have h' := h.later l
  have r' := RDs.later l ds vs r
  have n := r'.length
  rw [enumP_len]
  refine ⟨fun hi => ⟨⟨vs, vs[i]'(by omega), h'.sq, List.getElem?_eq_getElem _⟩, fun x H' hy => ?_⟩, fun hi => ⟨vs, h'.sq, by omega⟩⟩
  obtain ⟨p, y, rfl, hp, rfl, hx⟩ := hy
  obtain ⟨d, e, rd⟩ := r'.got (hx vs h'.sq)
  refine ⟨{ w' with H := upd w'.H p (.tup [.int (i : Nat), y]) }, rfl, rfl, Grow.alloc c hp, c.alloc hp, .tuple [.int (i : Nat), d], ?_, .tup (TL_.alloc c hp) (.cons (.int _) (.cons (RD.grow c (Grow.alloc c hp) d y rd) .nil))⟩
  rw [enumP_get ds 0 i d e, Nat.zero_add]
theorem zipP_get : ∀ (xs ys : List PyData) (i : Nat) (x y : PyData), xs[i]? = some x → ys[i]? = some y → (zipP xs ys)[i]? = some (.tuple [x, y])
  | [], _, _, _, _, h, _ => by simp at h
  | _ :: _, [], _, _, _, _, h => by simp at h
  | a :: r, b :: q, 0, x, y, h, h' => by
    have e : a = x := by simpa using h
    have e' : b = y := by simpa using h'
    subst e
    subst e'
    simp [zipP]
  | a :: r, b :: q, i + 1, x, y, h, h' => by
    simp only [zipP, List.getElem?_cons_succ]
    exact zipP_get r q i x y (by simpa using h) (by simpa using h')
theorem zipP_len : ∀ (xs ys : List PyData), (zipP xs ys).length = min xs.length ys.length
  | [], _ => by simp [zipP]
  | _ :: _, [] => by simp [zipP]
  | a :: r, b :: q => by simp only [zipP, List.length_cons, zipP_len r q]; omega
theorem itr_zip {a b : Addr} {vs us : List V} {ds es : List PyData} (h : SL K w a vs) (r : RDs K w vs ds) (h2 : SL K w b us) (r2 : RDs K w us es) : ItR K w (Itz K a b) (zipP ds es) fun _ => True := fun w' l c _ i => by
  have h' := h.later l
  have r' := RDs.later l ds vs r
  have n := r'.length
  have h2' := h2.later l
  have r2' := RDs.later l es us r2
  have n2 := r2'.length
  rw [zipP_len]
  refine ⟨fun hi => ⟨⟨vs, us, vs[i]'(by omega), us[i]'(by omega), h'.sq, h2'.sq, List.getElem?_eq_getElem _, List.getElem?_eq_getElem _⟩, fun x H' hy => ?_⟩, fun hi => ⟨vs, us, h'.sq, h2'.sq, by omega⟩⟩
  obtain ⟨p, y, z, rfl, hp, rfl, hx, hz⟩ := hy
  obtain ⟨d, e, rd⟩ := r'.got (hx vs h'.sq)
  obtain ⟨d2, e2, rd2⟩ := r2'.got (hz us h2'.sq)
  have g := Grow.alloc c (p := p) (o := .tup [y, z]) hp
  exact ⟨{ w' with H := upd w'.H p (.tup [y, z]) }, rfl, rfl, g, c.alloc hp, .tuple [d, d2], zipP_get ds es i d d2 e e2, .tup (TL_.alloc c hp) (.cons (RD.grow c g d y rd) (.cons (RD.grow c g d2 z rd2) .nil))⟩
theorem itr_zips {a b : Addr} {vs us : List V} {ds es : List PyData} (h : SL K w a vs) (r : RDs K w vs ds) (h2 : SL K w b us) (r2 : RDs K w us es) : ds.length = es.length → ItR K w (ZS.Its K a b) (zipP ds es) fun _ => True := fun hlen w' l c _ i => by
  have h' := h.later l
  have r' := RDs.later l ds vs r
  have n := r'.length
  have h2' := h2.later l
  have r2' := RDs.later l es us r2
  have n2 := r2'.length
  rw [zipP_len]
  refine ⟨fun hi => ⟨⟨vs, us, vs[i]'(by omega), us[i]'(by omega), h'.sq, h2'.sq, List.getElem?_eq_getElem _, List.getElem?_eq_getElem _⟩, fun x H' hy => ?_⟩, fun hi => ⟨vs, us, h'.sq, h2'.sq, by omega⟩⟩
  obtain ⟨p, y, z, rfl, hp, rfl, hx, hz⟩ := hy
  obtain ⟨d, e, rd⟩ := r'.got (hx vs h'.sq)
  obtain ⟨d2, e2, rd2⟩ := r2'.got (hz us h2'.sq)
  have g := Grow.alloc c (p := p) (o := .tup [y, z]) hp
  exact ⟨{ w' with H := upd w'.H p (.tup [y, z]) }, rfl, rfl, g, c.alloc hp, .tuple [d, d2], zipP_get ds es i d d2 e e2, .tup (TL_.alloc c hp) (.cons (RD.grow c g d y rd) (.cons (RD.grow c g d2 z rd2) .nil))⟩
end
section
variable {X : Cx} {tg : Expr}
/-- a list or a tuple -/
theorem pi_seq {e : Expr} {te : TE} (he : PE X e te) : PI X tg e (fun σ H R => te σ H fun x H1 => ∃ a, x = .ref a ∧ ((∃ xs, SqL X.K H1 a xs ∧ R (Itl X.K a) H1) ∨ ∃ xs, SqT X.K H1 a xs ∧ R (Itt X.K a) H1)) := by
  refine ⟨fun pins s σ H R I h => thn (he.run pins s σ H _ I h) fun v s1 hv => ?_⟩
  obtain ⟨x, H1, I1, r1, a, rfl, q⟩ := hv
  cases r1
  rcases q with ⟨xs, hq, q⟩ | ⟨xs, hq, q⟩
  · obtain ⟨its, rv, p, hz⟩ := I1.list hq
    exact wpAny_pyIter_list p.isList (pi_one (tk := s1.toks) I1 _ (turn_list a _) ⟨_, Heap.get?_push_size _ rfl, rfl, rfl⟩ q)
  · obtain ⟨its, rv, p, hz⟩ := I1.tuple hq
    exact wpAny_pyIter_tuple (show s1.heap.IsTuple a its.toArray from p) (pi_one (tk := s1.toks) I1 _ (turn_tuple a _) ⟨_, Heap.get?_push_size _ rfl, rfl, rfl⟩ q)
end
def SndI (T : Tab) (it : I) : Prop := ∀ {X : Cx} {N : List Str} {sc : Scope} {k : Nat} {W : WX}, Cxt X N sc k T W → ∀ tg p, mI T N sc it tg p = true → PI X tg p (RI X.K X.mg W (denI T it)) ∧ ∀ x, foldedSetIterable p X.env x = pure x
section
variable {T : Tab}
theorem snd_dat {e : E} (he : SndE T e) : SndI T (.dat e) := by
  intro X N sc k W C tg p h
  simp only [mI] at h
  obtain ⟨h1, h2⟩ := and_iff h
  refine ⟨PI.imp (pi_seq (he C p h1).1) fun σ H R q => ?_, fun x => by cases p <;> first | rfl | cases h2⟩
  obtain ⟨env, w, Rm, Xm, rfl, ho, hc, hm, pv, px⟩ := q
  refine ⟨env, w, _, Xm, rfl, ho, hc, hm, fun v w1 hv g1 c1 r rv => ?_, px⟩
  cases v with
  | d x =>
    cases x with
    | list xs =>
      cases rv with
      | lst h3 h4 => exact ⟨_, rfl, .inl ⟨_, h3.sq, pv xs _ w1 _ hv g1 c1 trivial (itr_list h3 h4)⟩⟩
    | tuple xs =>
      cases rv with
      | tup h3 h4 => exact ⟨_, rfl, .inr ⟨_, h3.sq, pv xs _ w1 _ hv g1 c1 trivial (itr_tup h3 h4)⟩⟩
    | _ => exact False.elim hv
  | cell n =>
    obtain ⟨hn, rfl⟩ := rv
    obtain ⟨xs, e1, q⟩ := hv
    obtain ⟨vs, e2, _⟩ := c1.cell n xs e1
    exact ⟨_, rfl, .inl ⟨vs, .inl (.inl e2), pv xs _ w1 _ q g1 c1 e1 (itr_cell hn)⟩⟩
theorem snd_rng1 {a : E} (ha : SndE T a) : SndI T (.rng1 a) := by
  intro X N sc k W C tg p h
  simp only [mI] at h
  split at h
  · rename_i x q y pos
    obtain ⟨h, h4⟩ := and_iff h
    obtain ⟨h, h3⟩ := and_iff h
    obtain ⟨h1, h2⟩ := and_iff h
    have e1 : x = "range" := dec_of h1
    subst e1
    obtain ⟨g1, g2, g3⟩ := C.gl_ h2
    have st := star_cons (es := []) (env := X.env) (mE_nst h4)
    refine ⟨PI.imp (pi_range1 g1 (C.fa.blt _ (dec_of h3)) (pa_cons (ha C y h4).1 pa_nil st) st) fun σ H R q => ?_, fun x => rfl⟩
    obtain ⟨env, w, Rm, Xm, rfl, ho, hc, hm, pv, px⟩ := q
    refine ⟨env, w, _, Xm, rfl, ho, hc, hm, fun v w1 hv g1 c1 r rv => ?_, px⟩
    obtain ⟨j, rfl, b1, b2, q⟩ := hv
    cases rv
    exact ⟨j, rfl, b1, b2, pv _ _ w1 _ q g1 c1 trivial (itr_rng 0 j.toNat)⟩
  · cases h
theorem snd_rng2 {a b : E} (ha : SndE T a) (hb : SndE T b) : SndI T (.rng2 a b) := by
  intro X N sc k W C tg p h
  simp only [mI] at h
  split at h
  · rename_i x q y z pos
    obtain ⟨h, h5⟩ := and_iff h
    obtain ⟨h, h4⟩ := and_iff h
    obtain ⟨h, h3⟩ := and_iff h
    obtain ⟨h1, h2⟩ := and_iff h
    have e1 : x = "range" := dec_of h1
    subst e1
    obtain ⟨g1, g2, g3⟩ := C.gl_ h2
    have st2 := star_cons (es := []) (env := X.env) (mE_nst h5)
    have st : starEach [y, z] X.env = (false, eval y X.env) :: starEach [z] X.env := star_cons (mE_nst h4)
    refine ⟨PI.imp (pi_range2 g1 (C.fa.blt _ (dec_of h3)) (pa_cons (ha C y h4).1 (pa_cons (hb C z h5).1 pa_nil st2) st) (by rw [st, st2] <;> rfl) st2) fun σ H R q => ?_, fun x => rfl⟩
    obtain ⟨env, w, Rm, Xm, rfl, ho, hc, hm, pv, px⟩ := q
    refine ⟨env, w, _, Xm, rfl, ho, hc, hm, fun v w1 hv g1 c1 r rv => ⟨env, w1, _, Xm, rfl, ho.grow hc g1, c1, hv, fun u w2 hu g2 c2 r2 ru => ?_, px.grow g1⟩, px⟩
    obtain ⟨i, j, rfl, rfl, b, q⟩ := hu
    cases rv
    cases ru
    exact ⟨i, j, rfl, b, pv _ _ w2 _ q (g1.trans g2) c2 trivial (itr_rng i _)⟩
  · cases h
theorem snd_enum {a : E} (ha : SndE T a) : SndI T (.enum a) := by
  intro X N sc k W C tg p h
  simp only [mI] at h
  split at h
  · rename_i es kk tpos x q y pos
    obtain ⟨h, h4⟩ := and_iff h
    obtain ⟨h, h3⟩ := and_iff h
    obtain ⟨h1, h2⟩ := and_iff h
    have e1 : x = "enumerate" := dec_of h1
    subst e1
    obtain ⟨g1, g2, g3⟩ := C.gl_ h2
    have st := star_cons (es := []) (env := X.env) (mE_nst h4)
    refine ⟨PI.imp (pi_enum g1 (C.fa.blt _ (dec_of h3)) (pa_cons (ha C y h4).1 pa_nil st) st) fun σ H R q => ?_, fun x => rfl⟩
    obtain ⟨env, w, Rm, Xm, rfl, ho, hc, hm, pv, px⟩ := q
    refine ⟨env, w, _, Xm, rfl, ho, hc, hm, fun v w1 hv g1 c1 r rv => ?_, px⟩
    obtain ⟨xs, rfl, q⟩ := hv
    cases rv with
    | lst h5 h6 => exact ⟨_, _, rfl, h5.sq, pv _ _ w1 _ q g1 c1 trivial (itr_enum h5 h6)⟩
  · cases h
theorem snd_zip {a b : E} (ha : SndE T a) (hb : SndE T b) : SndI T (.zip a b) := by
  intro X N sc k W C tg p h
  simp only [mI] at h
  split at h
  · rename_i es kk tpos x q y z pos
    obtain ⟨h, h5⟩ := and_iff h
    obtain ⟨h, h4⟩ := and_iff h
    obtain ⟨h, h3⟩ := and_iff h
    obtain ⟨h1, h2⟩ := and_iff h
    have e1 : x = "zip" := dec_of h1
    subst e1
    obtain ⟨g1, g2, g3⟩ := C.gl_ h2
    have st2 := star_cons (es := []) (env := X.env) (mE_nst h5)
    have st : starEach [y, z] X.env = (false, eval y X.env) :: starEach [z] X.env := star_cons (mE_nst h4)
    refine ⟨PI.imp (pi_zip g1 (C.fa.blt _ (dec_of h3)) (pa_cons (ha C y h4).1 (pa_cons (hb C z h5).1 pa_nil st2) st) st (star_all (by simp [mE_nst h5]))) fun σ H R q => ?_, fun x => rfl⟩
    obtain ⟨env, w, Rm, Xm, rfl, ho, hc, hm, pv, px⟩ := q
    refine ⟨env, w, _, Xm, rfl, ho, hc, hm, fun v w1 hv g1 c1 r rv => ⟨env, w1, _, Xm, rfl, ho.grow hc g1, c1, hv, fun u w2 hu g2 c2 r2 ru => ?_, px.grow g1⟩, px⟩
    obtain ⟨xs, ys, rfl, rfl, q⟩ := hu
    have rv' := RV.grow c1 g2 rv
    cases rv' with
    | lst h6 h7 =>
      cases ru with
      | lst h8 h9 => exact ⟨_, _, _, _, rfl, h6.sq, h8.sq, pv _ _ w2 _ q (g1.trans g2) c2 trivial (itr_zip h6 h7 h8 h9)⟩
  · cases h
theorem snd_zips {a b : E} (ha : SndE T a) (hb : SndE T b) : SndI T (.zips a b) := by
  intro X N sc k W C tg p h
  simp only [mI] at h
  split at h
  · rename_i es kk tpos x q y z k0 j0 cp kp pos
    obtain ⟨h, h5⟩ := and_iff h
    obtain ⟨h, h4⟩ := and_iff h
    obtain ⟨h, h3⟩ := and_iff h
    obtain ⟨h, h2⟩ := and_iff h
    obtain ⟨h1, h0⟩ := and_iff h
    have e1 : x = "zip" := dec_of h1
    have e0 : k0 = Str.ofString "strict" := dec_of h0
    subst e1
    subst e0
    obtain ⟨g1, g2, g3⟩ := C.gl_ h2
    have st2 := star_cons (es := []) (env := X.env) (mE_nst h5)
    have st : starEach [y, z] X.env = (false, eval y X.env) :: starEach [z] X.env := star_cons (mE_nst h4)
    refine ⟨PI.imp (ZS.pi_zipS g1 (C.fa.blt _ (dec_of h3)) (pa_cons (ha C y h4).1 (pa_cons (hb C z h5).1 pa_nil st2) st) st (star_all (by simp [mE_nst h5]))) fun σ H R q => ?_, fun x => rfl⟩
    obtain ⟨env, w, Rm, Xm, rfl, ho, hc, hm, pv, px⟩ := q
    refine ⟨env, w, _, Xm, rfl, ho, hc, hm, fun v w1 hv g1 c1 r rv => ⟨env, w1, _, Xm, rfl, ho.grow hc g1, c1, hv, fun u w2 hu g2 c2 r2 ru => ?_, px.grow g1⟩, px⟩
    obtain ⟨xs, ys, rfl, rfl, hlen, q⟩ := hu
    have rv' := RV.grow c1 g2 rv
    cases rv' with
    | lst h6 h7 =>
      cases ru with
      | lst h8 h9 => exact ⟨_, _, _, _, rfl, h6.sq, h8.sq, pv _ _ w2 _ q (g1.trans g2) c2 trivial (itr_zips h6 h7 h8 h9 hlen)⟩
  · cases h
theorem snd_cno : SndC T .none := by
  intro X N sc k W C ps h
  cases ps with
  | cons _ _ => simp [mC] at h
  | nil =>
    refine PTs.imp pts_nil fun σ H Q q => ?_
    obtain ⟨env, w, Qm, Xm, rfl, ho, hc, hm, pv, px⟩ := q
    exact pv true w hm (.refl w) hc
theorem snd_cso {e : E} (he : SndE T e) : SndC T (.some e) := by
  intro X N sc k W C ps h
  cases ps with
  | nil => simp [mC] at h
  | cons p ps =>
    cases ps with
    | cons _ _ => simp [mC] at h
    | nil => exact pts_one (he C p h).2
end

/-! ### list comprehensions -/
section
variable {K : PySem.W.Frag} {mg : Str → Option Value} {W : WX} {σ : L2.St} {H : Hp} {w w' w1 w2 : Wd} {D : Addr}
theorem Grow.un {F : Addr → Prop} (g : Grow w1 { w' with F := F }) (h : Grow w' w2) : Grow w1 { w2 with F := F } where
  len := Nat.le_trans g.len h.len
  io := fun n hn => (h.io n (Nat.lt_of_lt_of_le hn g.len)).trans (g.io n hn)
  keep := fun b o e n => let ⟨e1, n1⟩ := g.keep b o e n; h.keep b o e1 n1
  there := fun b o e => let ⟨o1, e1⟩ := g.there b o e; h.there b o1 e1
  ff := g.ff
theorem later_put {xs : List V} (hf : w.F D) : Later w { w with H := upd w.H D (.lst xs) } :=
  ⟨Nat.le_refl _, fun _ _ => rfl, fun b o e n => ⟨(upd_ne fun z => n (.inr (by rw [z]; exact hf))).trans e, n⟩⟩
theorem cok_put {xs : List V} (c : COk K w) (hf : w.F D) : COk K { w with H := upd w.H D (.lst xs) } where
  cell := fun n ys e => by
    obtain ⟨vs, e1, r⟩ := c.cell n ys e
    have hn := (List.getElem?_eq_some_iff.mp e).1
    exact ⟨vs, (upd_ne fun z => (c.forb D hf).2 ⟨n, hn, z⟩).trans e1, RDs.later (later_put hf) ys vs r⟩
  inj := c.inj
  forb := fun b f => by
    obtain ⟨⟨o, e⟩, n⟩ := c.forb b f
    refine ⟨?_, n⟩
    by_cases hb : b = D
    · exact ⟨_, by rw [hb]; exact upd_same⟩
    · exact ⟨o, (upd_ne hb).trans e⟩
theorem later_forget {F : Addr → Prop} (h : ∀ b, F b → w.F b) : Later w { w with F := F } :=
  ⟨Nat.le_refl _, fun _ _ => rfl, fun b o e n => ⟨e, fun z => n (z.elim .inl fun f => .inr (h b f))⟩⟩
theorem cok_forget {F : Addr → Prop} (c : COk K w) (h : ∀ b, F b → w.F b) : COk K { w with F := F } where
  cell := fun n ys e => by
    obtain ⟨vs, e1, r⟩ := c.cell n ys e
    exact ⟨vs, e1, RDs.later (later_forget h) ys vs r⟩
  inj := c.inj
  forb := fun b f => c.forb b (h b f)
/-- a new list that is ours alone -/
def Wd.hold (w : Wd) (D : Addr) : Wd := { w with H := upd w.H D (.lst []), F := fun b => w.F b ∨ b = D }
theorem later_hold (c : COk K w) (h : w.H D = none) : Later w (w.hold D) :=
  ⟨Nat.le_refl _, fun _ _ => rfl, fun b o e n => ⟨(upd_ne (ne_of_none e h)).trans e, fun z => z.elim (fun l => n (.inl l)) fun f => f.elim (fun g => n (.inr g)) (ne_of_none e h)⟩⟩
theorem cok_hold (c : COk K w) (h : w.H D = none) : COk K (w.hold D) where
  cell := fun n ys e => by
    obtain ⟨vs, e1, r⟩ := c.cell n ys e
    exact ⟨vs, (upd_ne (ne_of_none e1 h)).trans e1, RDs.later (later_hold c h) ys vs r⟩
  inj := c.inj
  forb := fun b f => by
    rcases f with f | rfl
    · obtain ⟨⟨o, e⟩, n⟩ := c.forb b f
      exact ⟨⟨o, (upd_ne (ne_of_none e h)).trans e⟩, n⟩
    · exact ⟨⟨_, upd_same⟩, fun l => c.fresh h (.inl l)⟩
theorem drop_at {α : Type} {l : List α} {i : Nat} {x : α} (h : l[i]? = some x) : l.drop i = x :: l.drop (i + 1) := by
  obtain ⟨h1, h2⟩ := List.getElem?_eq_some_iff.mp h
  rw [List.drop_eq_getElem_cons h1, h2]
abbrev W0 : WX := fun _ _ _ _ => False
theorem px0 {w : Wd} {E : XK} : PX K mg w (fun _ _ => False) E := fun _ _ _ _ h => h.elim
theorem re_comp {t : T} {vs : List Nat} {mi : MI} {mt : MT} {me : ME} (hs : ∀ i ∈ slotsT t, i ∈ vs) {Q : VK}
    (h : RE K mg W (fun env st Q X => mi env st (fun items chk s => compGo (bindT t) mt me (wipeE env vs) chk items [] s Q (fun _ _ => False)) X) σ H Q) : tLc (RI K mg W mi) (RG K t) (RT K mg W0 mt) (RE K mg W0 me) vs σ H Q := by
  obtain ⟨env, w, Qm, Xm, rfl, ho, hc, hm, pv, px⟩ := h
  refine ⟨env, w, _, Xm, rfl, ho, hc, hm, fun items chk w1 J hR g1 c1 hk itr => ?_, px⟩
  intro D hD
  let Iv : Nat → Hp → Prop := fun i H => ∃ (w' : Wd) (accv : List V) (acc : List PyData), w'.H = H ∧ w'.F = (w1.hold D).F ∧ Grow w1 { w' with F := w1.F } ∧ Later w1 w' ∧ COk K w' ∧ EOk K w' (wipe σ vs) (wipeE env vs) ∧ chk w'.st ∧ w'.H D = some (.lst accv) ∧
    RDs K w' accv acc ∧ i ≤ items.length ∧ compGo (bindT t) mt me (wipeE env vs) chk (items.drop i) acc w'.st Qm (fun _ _ => False)
  refine ⟨fun i m H => m = items.length - i ∧ Iv i H, ⟨items.length, rfl, w1.hold D, [], [], rfl, rfl, Grow.alloc c1 hD, later_hold c1 hD, cok_hold c1 hD, ((ho.grow hc g1).later (later_hold c1 hD)).wipe vs, hk, upd_same, .nil, Nat.zero_le _, hR⟩, ?_⟩
  rintro i m H ⟨rfl, w', accv, acc, rfl, hF, gr, lt, c', eo, ck, hDl, rd, hi, hgo⟩
  have fD : w'.F D := by rw [hF]; exact .inr rfl
  obtain ⟨it1, it2⟩ := itr w' lt c' ck i
  by_cases hlt : i < items.length
  · right
    obtain ⟨go, yl⟩ := it1 hlt
    refine ⟨go, Iv (i + 1), fun H' q => ⟨items.length - (i + 1), by omega, rfl, q⟩, fun x H' hy => ?_⟩
    obtain ⟨w2, rfl, est, g2, c2, d, hd, rdx⟩ := yl x H' hy
    rw [drop_at hd] at hgo
    simp only [compGo] at hgo
    obtain ⟨e1, hb, hgo⟩ := hgo
    refine ⟨wipeE env vs, w2, d, e1, rfl, eo.grow c' g2, c2, rdx, hb, fun σ' eo' hw => ⟨by rw [hw vs hs, wipe_wipe], ?_⟩⟩
    refine ⟨e1, w2, _, _, rfl, eo', c2, by rw [est]; exact hgo, fun b w3 hb3 g3 c3 => ?_, px0⟩
    have g23 : Grow w' w3 := g2.trans g3
    have hD3 : w3.H D = some (.lst accv) := (g23.keep D _ hDl (c'.forb D fD).2).1
    cases b with
    | false =>
      simp only [Bool.false_eq_true, if_false] at hb3 ⊢
      exact ⟨w3, accv, acc, rfl, g23.ff.trans hF, gr.un g23, lt.trans g23.later, c3, eo.grow c' g23, hb3.1, hD3, RDs.grow c' g23 acc accv rd, hlt, hb3.2⟩
    | true =>
      simp only [if_true] at hb3 ⊢
      refine ⟨e1, w3, _, _, rfl, eo'.grow c2 g3, c3, hb3, fun v w4 hv4 g4 c4 r rv => ?_, px0⟩
      obtain ⟨ck4, hz, d', rfl, hgo4⟩ := hv4
      have g24 : Grow w' w4 := g23.trans g4
      have hD4 : w4.H D = some (.lst accv) := (g24.keep D _ hDl (c'.forb D fD).2).1
      have fD4 : w4.F D := by rw [g24.ff]; exact fD
      have rd4 : RDs K w4 (accv ++ [r]) (acc ++ [d']) := (RDs.grow c' g24 acc accv rd).append (.cons rv .nil)
      have gg := gr.un g24
      refine ⟨accv, hD4, by rw [sizeLine_eq, rd.length]; exact hz, { w4 with H := upd w4.H D (.lst (accv ++ [r])) }, accv ++ [r], acc ++ [d'], rfl, g24.ff.trans hF, ?_, (lt.trans g24.later).trans (later_put fD4), cok_put c4 fD4, (eo.grow c' g24).later (later_put fD4), ck4, upd_same, RDs.later (later_put fD4) _ _ rd4, hlt, hgo4⟩
      exact ⟨gg.len, gg.io, fun b o e n => ⟨(upd_ne (ne_of_none e hD)).trans (gg.keep b o e n).1, (gg.keep b o e n).2⟩, fun b o e => let ⟨o', e'⟩ := gg.there b o e; ⟨o', (upd_ne (ne_of_none e hD)).trans e'⟩, rfl⟩
  · left
    have e : i = items.length := by omega
    subst e
    rw [List.drop_length] at hgo
    simp only [compGo] at hgo
    have sub : ∀ b, w1.F b → w'.F b := fun b f => by rw [hF]; exact .inl f
    refine ⟨it2 (Nat.le_refl _), pv (.d (.list acc)) { w' with F := w1.F } hgo (g1.trans gr) (cok_forget c' sub) (.ref D) (.lst (.inl ⟨.inl hDl, fun z => ?_⟩) (RDs.later (later_forget sub) acc accv rd))⟩
    rcases z with z | z
    · exact (c'.forb D fD).2 z
    · obtain ⟨⟨o, e⟩, _⟩ := c1.forb D z
      rw [hD] at e
      cases e
theorem lookup_keep {scope sc : Scope} {x : Str} {q : NameKind} (hq : q ≠ .free) (h : scope.names.lookup x = some q) : (relS scope sc).names.lookup x = some q := lookup_relS_keep hq h
theorem blk_good {X : Cx} {N : List Str} {sc scope : Scope} {k : Nat} {Tb : Tab} {W : WX} {s : Shared} {H : Hp} {C : Addr} {cl : List (Str × Addr)} {fp : List Addr} (c : Cxt X N sc k Tb W) (hk : (relS scope sc).kind = .function) :
    Cxt (X.blk s H scope (compEnvC scope cl C X.env) fp) N (relS scope sc) k Tb W0 :=
  ⟨takes0, ⟨c.gd.hN, by rw [← c.gd.scp] <;> rfl, c.gd.nd, c.gd.calm, c.gd.room, c.gd.gd, hk⟩, c.fa⟩
theorem snd_comp {Tb : Tab} {own : List (Str × Nat)} {t : T} {it : I} {cs : EO} {e : E} (hi : SndI Tb it) (hcs : SndC Tb cs) (he : SndE Tb e) : SndE Tb (.comp own t it cs e) := by
  intro X N sc k W C p h
  simp only [mE] at h
  split at h
  · rename_i el tg iter ifs scope pos
    obtain ⟨h, h7⟩ := and_iff h
    obtain ⟨h, h6⟩ := and_iff h
    obtain ⟨h, h5⟩ := and_iff h
    obtain ⟨h, h4⟩ := and_iff h
    obtain ⟨h, h3⟩ := and_iff h
    obtain ⟨h1, h2⟩ := and_iff h
    have hk : (relS scope sc).kind = .function := dec_of h7
    obtain ⟨pi, hset⟩ := hi C tg iter h3
    have ok : BlkOk X.N X.env.scope scope own := by
      rw [C.gd.hN, C.gd.scp]
      exact blkOk_by h1
    have hN : X.N.Nodup := by rw [C.gd.hN]; exact C.gd.nd
    have slots : ∀ i ∈ slotsT t, i ∈ own.map (·.2) := fun i hm => dec_of (List.all_eq_true.mp h2 i hm)
    refine plain_pt (fun _ => rfl) (PE.imp (pe_lc C.gd.calm hN pi ok (fun s H A cl fp => ?_) (fun s H A cl fp => hcs (blk_good C hk) ifs h5) (fun s H A cl fp => (he (blk_good C hk) el h6).1) hset) fun _ _ _ q => re_comp slots q)
    refine sndT t (X := X.blk s H scope (compEnvC scope cl A X.env) fp) (sc := scope) C.gd.hN C.gd.nd C.gd.calm (fun x hx => ?_) tg h4
    unfold loc at hx
    rcases Bool.or_eq_true_iff.mp hx with hx | hx
    · have e1 : (compEnvC scope cl A X.env).scope.names.lookup x = some .local := lookup_keep (sc := X.env.scope) (by decide) (dec_of hx)
      exact ⟨.inl e1, .inr e1⟩
    · have e1 : (compEnvC scope cl A X.env).scope.names.lookup x = some .cell := lookup_keep (sc := X.env.scope) (by decide) (dec_of hx)
      have e2 : scope.names.lookup x = some .cell := dec_of hx
      refine ⟨.inr e1, .inl ?_⟩
      show (scope.names.lookup x == some .cell) = true
      rw [e2] <;> rfl
  · cases h
end
end Mini

/-! ### all of it -/
namespace Mini
open PySem PySem.Spec PyProof.Rows L2
mutual
theorem sndE (T : Tab) : ∀ e : E, SndE T e
  | .var i => snd_var i
  | .cst x => snd_cst x
  | .glb nm x => snd_glb nm x
  | .un op a => snd_un (sndE T a)
  | .bin op a b => snd_bin (sndE T a) (sndE T b)
  | .cmp op a b => snd_cmp (sndE T a) (sndE T b)
  | .isc neg a c => snd_isc (sndE T a)
  | .chain o1 o2 a b c => snd_chain (sndE T a) (sndE T b) (sndE T c)
  | .bop op es => snd_bop (sndL T es)
  | .ite c a b => snd_ite (sndE T c) (sndE T a) (sndE T b)
  | .tup es => snd_tup (sndL T es)
  | .lst cell es => snd_lst (sndL T es)
  | .idx a i => snd_idx (sndE T a) (sndE T i)
  | .slc a lo hi => snd_slc (sndE T a) (sndO T lo) (sndO T hi)
  | .call f es => snd_call (sndL T es)
  | .blt b es => snd_blt (sndL T es)
  | .isi a t => snd_isi (sndE T a)
  | .bits a => snd_bits (sndE T a)
  | .dct0 => snd_dct0
  | .binc op a b => snd_binc (sndE T a) (sndE T b)
  | .lrng1 a => snd_lrng1 (sndE T a)
  | .lrng2 a b => snd_lrng2 (sndE T a) (sndE T b)
  | .callb f es => snd_callb (sndL T es)
  | .comp own t it cs e => snd_comp (sndI T it) (sndC T cs) (sndE T e)
theorem sndL (T : Tab) : ∀ es : EL, SndL T es
  | .nil => snd_nil
  | .cons e es => snd_cons (sndE T e) (sndL T es)
theorem sndO (T : Tab) : ∀ o : EO, SndO T o
  | .none => snd_ono
  | .some e => snd_oso (sndE T e)
theorem sndC (T : Tab) : ∀ o : EO, SndC T o
  | .none => snd_cno
  | .some e => snd_cso (sndE T e)
theorem sndI (T : Tab) : ∀ it : I, SndI T it
  | .dat e => snd_dat (sndE T e)
  | .rng1 a => snd_rng1 (sndE T a)
  | .rng2 a b => snd_rng2 (sndE T a) (sndE T b)
  | .enum e => snd_enum (sndE T e)
  | .zip a b => snd_zip (sndE T a) (sndE T b)
  | .zips a b => snd_zips (sndE T a) (sndE T b)
end
end Mini

/-! Mini, part H: statements. -/
namespace Mini
open PySem PySem.Spec PyProof.Rows L2

def PN (K : PySem.W.Frag) (w : Wd) (q : Ev → ST → Prop) (Q : L2.St → Hp → Prop) : Prop := ∀ e w', q e w'.st → Grow w w' → COk K w' → ∀ σ, EOk K w' σ e → Q σ w'.H
theorem PN.grow {K : PySem.W.Frag} {w w1 : Wd} {q : Ev → ST → Prop} {Q : L2.St → Hp → Prop} (p : PN K w q Q) (g : Grow w w1) : PN K w1 q Q := fun e w' h g' c => p e w' h (g.trans g') c
structure PK' (K : PySem.W.Frag) (mg : Str → Option Value) (W : WX) (w : Wd) (σ : L2.St) (k : KK) (D : Ends) : Prop where
  nx : PN K w k.nx D.nx
  rt : PV K w k.rt D.rt
  bk : PN K w k.bk D.bk
  ct : PN K w k.ct D.ct
  ex : PX K mg w k.ex (fun c d H' => W c d σ H')
def RS (K : PySem.W.Frag) (mg : Str → Option Value) (W : WX) (m : MS) : TS := fun D σ H => ∃ env w k, w.H = H ∧ EOk K w σ env ∧ COk K w ∧ m env w.st k ∧ PK' K mg W w σ k D
/-- a wish that does not look at the slots -/
def Blind (W : WX) : Prop := ∀ c d σ σ' H, W c d σ H → W c d σ' H
theorem PX.blind {K : PySem.W.Frag} {mg : Str → Option Value} {W : WX} {w w1 : Wd} {σ σ' : L2.St} {Xm : QX} (b : Blind W) (g : Grow w w1) (p : PX K mg w Xm (fun c d H' => W c d σ H')) : PX K mg w1 Xm (fun c d H' => W c d σ' H') :=
  fun e w' cls d q g' c h => b _ _ _ _ _ (p e w' cls d q (g.trans g') c h)

structure CxtS (X : Cx) (N : List Str) (sc : Scope) (k : Nat) (T : Tab) (W : WX) : Prop extends Cxt X N sc k T W where
  fnt : ∀ x, X.fn x = true
  po : PassesOwn (model X.prog X.w) X.A X.env X.xe
  bl : Blind W
def SndS (T : Tab) (s : S) : Prop := ∀ {X : Cx} {N : List Str} {sc : Scope} {k : Nat} {W : WX}, CxtS X N sc k T W → ∀ p, mS T N sc s p = true → PS X p (RS X.K X.mg W (denS T s))
def SndB (T : Tab) (b : B) : Prop := ∀ {X : Cx} {N : List Str} {sc : Scope} {k : Nat} {W : WX}, CxtS X N sc k T W → ∀ ps, mB T N sc b ps = true → PSs X ps (RS X.K X.mg W (denB T b))

section
variable {X : Cx} {N : List Str} {sc : Scope} {k : Nat} {T : Tab} {W : WX} {K : PySem.W.Frag} {mg : Str → Option Value} {σ : L2.St} {H : Hp}
theorem CxtS.store (C : CxtS X N sc k T W) : StoreOk X sc := fun x hx => by
  refine ⟨?_, .inl (C.fnt x)⟩
  unfold loc at hx
  rw [C.gd.scp]
  exact (Bool.or_eq_true_iff.mp hx).elim (fun h => .inl (dec_of h)) fun h => .inr (dec_of h)
theorem CxtS.loc_ (C : CxtS X N sc k T W) {x : Str} (hx : loc sc x = true) : Loc X.env.scope x := (C.store x hx).1
theorem snd_bnil : SndB T .nil := by
  intro X N sc k W C ps h
  cases ps with
  | cons _ _ => simp [mB] at h
  | nil =>
    refine PSs.imp pss_nil fun D σ H q => ?_
    obtain ⟨env, w, kk, rfl, ho, hc, hm, pk⟩ := q
    exact pk.nx env w hm (.refl w) hc σ ho
theorem snd_bcons {s : S} {b : B} (hs : SndS T s) (hb : SndB T b) : SndB T (.cons s b) := by
  intro X N sc k W C ps h
  cases ps with
  | nil => simp [mB] at h
  | cons p ps =>
    simp only [mB] at h
    obtain ⟨h1, h2⟩ := and_iff h
    refine PSs.imp (pss_cons (hs C p h1) (hb C ps h2)) fun D σ H q => ?_
    obtain ⟨env, w, kk, rfl, ho, hc, hm, pk⟩ := q
    refine ⟨env, w, _, rfl, ho, hc, hm, ⟨fun e w1 h g1 c1 σ1 ho1 => ?_, pk.rt, pk.bk, pk.ct, pk.ex⟩⟩
    exact ⟨e, w1, kk, rfl, ho1, c1, h, ⟨pk.nx.grow g1, pk.rt.grow g1, pk.bk.grow g1, pk.ct.grow g1, pk.ex.blind C.bl g1⟩⟩
theorem swaps_off {p : Expr} (h : noLc p = true) (t : Option Expr) (n : Nat) (env : Env) : swapsWith p t n env = pure false := by
  cases p <;> first | rfl | cases h
theorem swaps_tup {p : Expr} {es : List Expr} {kk : Nat} {pos : Pos} (n : Nat) (env : Env) : swapsWith p (some (.Tuple es kk pos)) n env = pure false := by
  cases p <;> rfl
theorem swaps_sub {p a b : Expr} {pos : Pos} (n : Nat) (env : Env) : swapsWith p (some (.Subscript a b pos)) n env = pure false := by
  cases p <;> rfl
theorem snd_expr {e : E} : SndS T (.expr e) := by
  intro X N sc k W C p h
  simp only [mS] at h
  split at h
  · obtain ⟨h1, h2⟩ := and_iff h
    refine PS.imp (ps_expr (sndE T e C.toCxt _ h1).1 (swaps_off h2 _ _ _)) fun D σ H q => ?_
    obtain ⟨env, w, kk, rfl, ho, hc, hm, pk⟩ := q
    exact ⟨env, w, _, _, rfl, ho, hc, hm, fun v w1 hv g1 c1 r rv => pk.nx env w1 hv g1 c1 σ (ho.grow hc g1), pk.ex⟩
  · cases h
/-- name = value, a comprehension too -/
theorem ps_name {i : Nat} {x : Str} {e : E} {v : Expr} {p1 p2 : Pos} (C : CxtS X N sc k T W) (hi : N[i]? = some x) (hx : loc sc x = true) (h : mE T N sc e v = true) : PS X (.Assign [.Name x p1] v p2) (tAsg (RE X.K X.mg W (den T e).v) (gName i)) := by
  have hN : X.N.Nodup := by rw [C.gd.hN]; exact C.gd.nd
  have hi' : X.N[i]? = some x := by rw [C.gd.hN]; exact hi
  have plain : swapsWith v (some (.Name x p1)) p2.line X.env = pure false → PS X (.Assign [.Name x p1] v p2) (tAsg (RE X.K X.mg W (den T e).v) (gName i)) := fun hs =>
    ps_set hN hi' (C.loc_ hx) (sndE T e C.toCxt v h).1 hs (.inl (C.fnt x))
  cases hl : noLc v with
  | true => exact plain (swaps_off hl _ _ _)
  | false =>
    cases e with
    | comp own t it cs e =>
      simp only [mE] at h
      split at h
      · rename_i el tg iter ifs scope pos
        have sw : ∃ b, swapsWith (.ListComp el [⟨tg, iter, ifs, 0⟩] scope pos) (some (.Name x p1)) p2.line X.env = pure b ∧ (b = true → X.env.kindOf x = some .local) :=
          ⟨_, rfl, fun hb => by
            obtain ⟨hb, _⟩ := and_iff hb
            obtain ⟨hb, _⟩ := and_iff hb
            obtain ⟨_, hb⟩ := and_iff hb
            simpa using hb⟩
        obtain ⟨b, sw, hloc⟩ := sw
        cases b with
        | false => exact plain sw
        | true =>
          obtain ⟨h, h7⟩ := and_iff h
          obtain ⟨h, h6⟩ := and_iff h
          obtain ⟨h, h5⟩ := and_iff h
          obtain ⟨h, h4⟩ := and_iff h
          obtain ⟨h, h3⟩ := and_iff h
          obtain ⟨h1, h2⟩ := and_iff h
          have hk : (relS scope sc).kind = .function := dec_of h7
          obtain ⟨pi, hset⟩ := sndI T it C.toCxt tg iter h3
          have ok : BlkOk X.N X.env.scope scope own := by
            rw [C.gd.hN, C.gd.scp]
            exact blkOk_by h1
          have slots : ∀ i ∈ slotsT t, i ∈ own.map (·.2) := fun i hm => dec_of (List.all_eq_true.mp h2 i hm)
          refine PS.imp (ps_setLc C.gd.calm hN hi' (hloc rfl) sw pi ok (fun s H A cl fp => ?_) (fun s H A cl fp => sndC T cs (blk_good C.toCxt hk) ifs h5) (fun s H A cl fp => (sndE T e (blk_good C.toCxt hk) el h6).1) hset) fun D σ H q => re_comp slots q
          refine sndT t (X := X.blk s H scope (compEnvC scope cl A X.env) fp) (sc := scope) C.gd.hN C.gd.nd C.gd.calm (fun x hx => ?_) tg h4
          unfold loc at hx
          rcases Bool.or_eq_true_iff.mp hx with hx | hx
          · have e1 : (compEnvC scope cl A X.env).scope.names.lookup x = some .local := lookup_keep (sc := X.env.scope) (by decide) (dec_of hx)
            exact ⟨.inl e1, .inr e1⟩
          · have e1 : (compEnvC scope cl A X.env).scope.names.lookup x = some .cell := lookup_keep (sc := X.env.scope) (by decide) (dec_of hx)
            have e2 : scope.names.lookup x = some .cell := dec_of hx
            refine ⟨.inr e1, .inl ?_⟩
            show (scope.names.lookup x == some .cell) = true
            rw [e2] <;> rfl
      · cases h
    | _ => cases v <;> first | (cases hl; done) | (simp [mE] at h; done)
theorem fold_none {ts vs : List Expr} {k1 k2 : Nat} {p1 p2 : Pos} {env : Env} (h : vs.all (foldedForSure 8) = true) : swappedStores [.Tuple ts k1 p1] (.Tuple vs k2 p2) env = pure none := by
  simp only [swappedStores, h, if_true]
  repeat (first | rfl | split)
theorem long_none {ts vs : List Expr} {k1 k2 : Nat} {p1 p2 : Pos} {env : Env} (h : 3 < ts.length) : swappedStores [.Tuple ts k1 p1] (.Tuple vs k2 p2) env = pure none := by
  have e1 : (ts.length == 2) = false := by simpa using (by omega : ts.length ≠ 2)
  have e2 : (ts.length == 3) = false := by simpa using (by omega : ts.length ≠ 3)
  simp only [swappedStores, e1, e2]
  rfl
theorem tup_none {ts : List Expr} {v : Expr} {k1 : Nat} {p1 : Pos} {env : Env} (h : noTup v = true) : swappedStores [.Tuple ts k1 p1] v env = pure none := by
  cases v <;> first | rfl | cases h
theorem snd_asg {t : Mini.T} {e : E} : SndS T (.asg t e) := by
  intro X N sc k W C p h
  cases t with
  | var i =>
    simp only [mS] at h
    split at h
    · rename_i x p1 v p2
      obtain ⟨h, h3⟩ := and_iff h
      obtain ⟨h1, h2⟩ := and_iff h
      refine PS.imp (ps_name C (dec_of h1) h2 h3) fun D σ H q => ?_
      obtain ⟨env, w, kk, rfl, ho, hc, hm, pk⟩ := q
      exact ⟨env, w, _, _, rfl, ho, hc, hm, fun v w1 hv g1 c1 r rv => pk.nx _ w1 hv g1 c1 _ ((ho.grow hc g1).set i rv), pk.ex⟩
    · cases h
  | tup ts =>
    simp only [mS] at h
    split at h
    · rename_i es kk p1 v p2
      obtain ⟨h, h3⟩ := and_iff h
      obtain ⟨h1, h2⟩ := and_iff h
      have hw : swappedStores [.Tuple es kk p1] v X.env = pure none := by
        rcases Bool.or_eq_true_iff.mp h3 with h3 | h3
        · rcases Bool.or_eq_true_iff.mp h3 with h3 | h3
          · exact tup_none h3
          · cases v with
            | Tuple vs k2 p3 => exact long_none (dec_of h3)
            | _ => rfl
        · cases v with
          | Tuple vs k2 p3 => exact fold_none h3
          | _ => cases h3
      have hN : X.N.Nodup := by rw [C.gd.hN]; exact C.gd.nd
      have pg := sndT (.tup ts) (X := X) C.gd.hN C.gd.nd C.gd.calm C.store (.Tuple es kk p1) h1
      refine PS.imp (ps_asg (sndE T e C.toCxt v h2).1 pg (swaps_tup (es := es) (kk := kk) (pos := p1) p2.line X.env) hw rfl) fun D σ H q => ?_
      obtain ⟨env, w, kk, rfl, ho, hc, hm, pk⟩ := q
      refine ⟨env, w, _, _, rfl, ho, hc, hm, fun v w1 hv g1 c1 r rv => ?_, pk.ex⟩
      obtain ⟨x, e1, rfl, hb, hn⟩ := hv
      exact ⟨env, w1, x, e1, rfl, ho.grow hc g1, c1, rv, hb, fun σ' ho' _ => pk.nx e1 w1 hn g1 c1 σ' ho'⟩
    · cases h
theorem snd_ite_s {c : E} {a b : B} (ha : SndB T a) (hb : SndB T b) : SndS T (.ite c a b) := by
  intro X N sc k W C p h
  simp only [mS] at h
  split at h
  · obtain ⟨h, h3⟩ := and_iff h
    obtain ⟨h1, h2⟩ := and_iff h
    refine PS.imp (ps_if (sndE T c C.toCxt _ h1).2 (ha C _ h2) (hb C _ h3)) fun D σ H q => ?_
    obtain ⟨env, w, kk, rfl, ho, hc, hm, pk⟩ := q
    refine ⟨env, w, _, _, rfl, ho, hc, hm, fun b w1 hb g1 c1 => ?_, pk.ex⟩
    have pk1 : PK' X.K X.mg W w1 σ kk D := ⟨pk.nx.grow g1, pk.rt.grow g1, pk.bk.grow g1, pk.ct.grow g1, pk.ex.grow g1⟩
    cases b with
    | true =>
      simp only [if_true] at hb ⊢
      exact ⟨env, w1, kk, rfl, ho.grow hc g1, c1, hb, pk1⟩
    | false =>
      simp only [Bool.false_eq_true, if_false] at hb ⊢
      exact ⟨env, w1, kk, rfl, ho.grow hc g1, c1, hb, pk1⟩
  · cases h
theorem snd_ret {e : E} : SndS T (.ret e) := by
  intro X N sc k W C p h
  simp only [mS] at h
  split at h
  · refine PS.imp (ps_ret (sndE T e C.toCxt _ h).1) fun D σ H q => ?_
    obtain ⟨env, w, kk, rfl, ho, hc, hm, pk⟩ := q
    exact ⟨env, w, _, _, rfl, ho, hc, hm, fun v w1 hv g1 c1 r rv => pk.rt v w1 hv g1 c1 r rv, pk.ex⟩
  · cases h
theorem snd_retN : SndS T .retN := by
  intro X N sc k W C p h
  simp only [mS] at h
  split at h
  · refine PS.imp ps_retN fun D σ H q => ?_
    obtain ⟨env, w, kk, rfl, ho, hc, hm, pk⟩ := q
    exact pk.rt _ w hm (.refl w) hc _ .non
  · cases h
theorem snd_brk : SndS T .brk := by
  intro X N sc k W C p h
  simp only [mS] at h
  split at h
  · refine PS.imp ps_break fun D σ H q => ?_
    obtain ⟨env, w, kk, rfl, ho, hc, hm, pk⟩ := q
    exact pk.bk _ w hm (.refl w) hc σ ho
  · cases h
theorem snd_pass : SndS T .pass := by
  intro X N sc k W C p h
  simp only [mS] at h
  split at h
  · refine PS.imp ps_pass fun D σ H q => ?_
    obtain ⟨env, w, kk, rfl, ho, hc, hm, pk⟩ := q
    exact pk.nx _ w hm (.refl w) hc σ ho
  · cases h
theorem asg_sub {a b : Expr} {pos : Pos} {env : Env} (h : nsl b = true) : ∀ v, assign (.Subscript a b pos) env v = (do
      let ov ← holding [v] (eval a env)
      let iv ← holding [v, ov] (eval b env)
      standAt pos
      holding [v, ov, iv] (setItem ov iv v)
      release [v, ov, iv] []) := fun v => by
  cases b <;> first | rfl | cases h
theorem snd_stuck : SndS T .stuck := by
  intro X N sc k W C p h
  refine PS.imp ps_never fun D σ H q => ?_
  obtain ⟨env, w, kk, rfl, ho, hc, hm, pk⟩ := q
  exact hm.elim
theorem put_cell {w : Wd} {n : Nat} {xs : List PyData} {vs : List V} (c : COk K w) (hn : n < w.st.length) (h : w.H (w.ι n) = some (.lst vs)) (he : w.st[n]? = some xs) : ∃ us, w.H (w.ι n) = some (.lst us) ∧ RDs K w us xs := c.cell n xs he
theorem snd_set {o i v : E} : SndS T (.set o i v) := by
  intro X N sc k W C p h
  simp only [mS] at h
  split at h
  · rename_i x y p1 z p2
    obtain ⟨h, h4⟩ := and_iff h
    obtain ⟨h, h3⟩ := and_iff h
    obtain ⟨h1, h2⟩ := and_iff h
    refine PS.imp (ps_asg (sndE T v C.toCxt z h3).1 (pg_sub (sndE T o C.toCxt x h1).1 (sndE T i C.toCxt y h2).1 set_list (asg_sub (mE_nsl h2))) (swaps_sub (a := x) (b := y) (pos := p1) p2.line X.env) rfl rfl) fun D σ H q => ?_
    obtain ⟨env, w, kk, rfl, ho, hc, hm, pk⟩ := q
    refine ⟨env, w, _, _, rfl, ho, hc, hm, fun x w1 hx g1 c1 r rx => ?_, pk.ex⟩
    refine ⟨env, w1, _, _, rfl, ho.grow hc g1, c1, hx, fun u w2 hu g2 c2 r2 ru => ?_, pk.ex.grow g1⟩
    refine ⟨env, w2, _, _, rfl, (ho.grow hc g1).grow c1 g2, c2, hu, fun j w3 hj g3 c3 r3 rj => ?_, pk.ex.grow (g1.trans g2)⟩
    obtain ⟨n, xs, d, z, q, rfl, e1, rfl, rfl, e2, hn⟩ := hj
    obtain ⟨hl, rfl⟩ := ru.grow c2 g3
    cases rj
    obtain ⟨vs, e3, r4⟩ := c3.cell n xs e1
    have rd : RDs X.K w3 (vs.set q r) (xs.set q d) := r4.set (RV.grow c2 g3 (RV.grow c1 g2 rx)) q
    have g4 : Grow w (w3.put n (xs.set q d) (vs.set q r)) := (g1.trans (g2.trans g3)).trans (Grow.put c3 hl)
    exact ⟨_, vs, z, q, rfl, rfl, e3, by rw [r4.length]; exact e2, pk.nx env (w3.put n (xs.set q d) (vs.set q r)) hn g4 (c3.put hl rd) σ (ho.grow hc g4)⟩
  · cases h
theorem snd_app {o v : E} : SndS T (.app o v) := by
  intro X N sc k W C p h
  simp only [mS] at h
  split at h
  · rename_i x nm q y pos p2
    obtain ⟨h, h4⟩ := and_iff h
    obtain ⟨h, h3⟩ := and_iff h
    obtain ⟨h1, h2⟩ := and_iff h
    have e1 : nm = "append" := dec_of h1
    subst e1
    have st := star_cons (es := []) (env := X.env) (mE_nst h4)
    refine PS.imp (ps_expr (pe_bm PySem.F.plainAttrs_list PySem.F.slot_list_append PySem.F.type_list_append mt_append (sndE T o C.toCxt x h3).1 (pa_cons (sndE T v C.toCxt y h4).1 pa_nil st) (att_base (mE_nab h3) _ _ _) (by rw [st]; rfl) h2 st rfl) rfl) fun D σ H q => ?_
    obtain ⟨env, w, kk, rfl, ho, hc, hm, pk⟩ := q
    refine ⟨env, w, _, _, rfl, ho, hc, hm, fun u w1 hu g1 c1 r ru => ?_, pk.ex⟩
    obtain ⟨n, rfl, hu⟩ := hu
    obtain ⟨hl, rfl⟩ := ru
    obtain ⟨vs, e3, r4⟩ := c1.cell n _ (List.getElem?_eq_getElem hl)
    refine ⟨.inl ⟨rfl, vs, .inl (.inl e3)⟩, env, w1, _, _, rfl, ho.grow hc g1, c1, hu, fun x w2 hx g2 c2 r2 rx => ?_, pk.ex.grow g1⟩
    obtain ⟨xs, d, e1, rfl, hz, hn⟩ := hx
    obtain ⟨us, e5, r5⟩ := c2.cell n xs e1
    have hl2 : n < w2.st.length := (List.getElem?_eq_some_iff.mp e1).1
    have g4 : Grow w (w2.put n (xs ++ [d]) (us ++ [r2])) := (g1.trans g2).trans (Grow.put c2 hl2)
    rw [← g2.io n hl]
    exact ⟨_, us, r2, rfl, rfl, e5, by rw [sizeLine_eq, r5.length]; exact hz, pk.nx env (w2.put n (xs ++ [d]) (us ++ [r2])) hn g4 (c2.put hl2 (r5.append (.cons rx .nil))) σ (ho.grow hc g4)⟩
  · cases h

theorem star_off {vs : List Expr} (h : vs.all nst = true) : (vs.any fun | .Starred .. => true | _ => false) = false := by
  induction vs with
  | nil => rfl
  | cons v vs ih =>
    have h' : nst v = true ∧ vs.all nst = true := by simpa using h
    rw [List.any_cons, ih h'.2]
    cases v <;> first | rfl | cases h'.1
theorem swap_of {ts vs : List Expr} {kt k2 : Nat} {pt pt2 : Pos} {env : Env} {names : List Str} (hk : env.scope.kind = .function) (hl : ts.length = vs.length) (hn : ts.length = 2 ∨ ts.length = 3) (hst : vs.all nst = true)
    (hnm : (ts.filterMap fun
      | .Name id pos => if env.kindOf id == some .local && pos.line == (ts.head?.map (·.pos.line)).getD 0 then some id else none
      | _ => none) = names) (hlen : names.length = ts.length) (hd : names.eraseDups.length = names.length) (h1 : vs.all (foldedForSure 8) = false) (h2 : vs.all (constantsAlone 8) = false) :
    swappedStores [.Tuple ts kt pt] (.Tuple vs k2 pt2) env = pure (some names) := by
  have e1 : (ts.length == 2 || ts.length == 3) = true := by
    rcases hn with h | h <;> simp [h]
  have e2 : (env.blockKind != .function) = false := by simp [Env.blockKind, hk, ScopeKind.isAnnotationScope]
  have e3 : (vs.length != ts.length) = false := by simp [hl]
  have e4 : (names.length != ts.length) = false := by simp [hlen]
  have e5 : (names.eraseDups.length != names.length) = false := by simp [hd]
  have e6 := star_off hst
  unfold swappedStores
  simp only [e1, e2, e3, Bool.not_true, Bool.or_false, Bool.false_eq_true, if_false]
  split
  · rename_i h
    exact absurd (e6.symm.trans h) Bool.false_ne_true
  split
  · rename_i h
    have h' : ((ts.filterMap fun
      | .Name id pos => if env.kindOf id == some .local && pos.line == (ts.head?.map (·.pos.line)).getD 0 then some id else none
      | _ => none).length != ts.length || (ts.filterMap fun
      | .Name id pos => if env.kindOf id == some .local && pos.line == (ts.head?.map (·.pos.line)).getD 0 then some id else none
      | _ => none).eraseDups.length != (ts.filterMap fun
      | .Name id pos => if env.kindOf id == some .local && pos.line == (ts.head?.map (·.pos.line)).getD 0 then some id else none
      | _ => none).length) = true := h
    rw [hnm, e4, e5] at h'
    exact absurd h' Bool.false_ne_true
  · rw [if_neg (by rw [h1]; exact Bool.false_ne_true), if_neg (by rw [h2]; exact Bool.false_ne_true)]
    exact congrArg (fun l => pure (some l)) hnm

theorem eraseDups2 {x y : Str} (h : x ≠ y) : ([x, y] : List Str).eraseDups.length = 2 := by
  have e : (!(y == x)) = true := by simpa using fun z : y = x => h z.symm
  simp [List.eraseDups_cons, e, h.symm]
theorem eraseDups3 {x y z : Str} (h1 : x ≠ y) (h2 : x ≠ z) (h3 : y ≠ z) : ([x, y, z] : List Str).eraseDups.length = 3 := by
  simp [List.eraseDups_cons, h1.symm, h2.symm, h3.symm]
theorem nd_ne {l : List Str} (hN : l.Nodup) {i j : Nat} {x y : Str} (hij : i ≠ j) (a : l[i]? = some x) (b : l[j]? = some y) : x ≠ y := fun e => hij (nd_ix hN a (by rw [e]; exact b))
theorem mPar_cons {i : Nat} {is : List Nat} {ts : List Expr} (h : mPar N sc (i :: is) ts = true) : ∃ x p es, ts = .Name x p :: es ∧ N[i]? = some x ∧ sc.names.lookup x = some .local ∧ mPar N sc is es = true := by
  cases ts with
  | nil => cases h
  | cons t es =>
    cases t with
    | Name x p =>
      obtain ⟨h, h3⟩ := and_iff h
      obtain ⟨h1, h2⟩ := and_iff h
      exact ⟨x, p, es, rfl, dec_of h1, dec_of h2, h3⟩
    | _ => cases h
theorem mPar_nil {ts : List Expr} (h : mPar N sc [] ts = true) : ts = [] := by
  cases ts with
  | nil => rfl
  | cons t es => cases h
theorem snd_par {is : List Nat} {es : EL} : SndS T (.par is es) := by
  intro X N sc k W C p h
  simp only [mS] at h
  split at h
  · rename_i ts k1 p1 vs k2 p2 p3
    obtain ⟨h, h8⟩ := and_iff h
    obtain ⟨h, h7⟩ := and_iff h
    obtain ⟨h, h6⟩ := and_iff h
    obtain ⟨h, h5⟩ := and_iff h
    obtain ⟨h, h4⟩ := and_iff h
    obtain ⟨h, h3⟩ := and_iff h
    obtain ⟨h1, h2⟩ := and_iff h
    have hN : X.N.Nodup := by rw [C.gd.hN]; exact C.gd.nd
    have nst_ := mEL_nst h8
    have f1 : vs.all (foldedForSure 8) = false := by simpa using h7
    have f2 : vs.all (constantsAlone 8) = false := by simpa using h6
    have nd : is.Nodup := dec_of h5
    have hlen : ts.length = vs.length := dec_of h3
    have kd : X.env.scope.kind = .function := by rw [C.gd.scp]; exact C.gd.kind
    have hsc := C.gd.scp
    have pa := (sndL T es C.toCxt vs h8).1
    have two : is.length = 2 ∨ is.length = 3 := (Bool.or_eq_true_iff.mp h4).elim (fun z => .inl (dec_of z)) fun z => .inr (dec_of z)
    rcases two with two | two
    · obtain ⟨i, j, rfl⟩ : ∃ i j, is = [i, j] := by
        match is, two with
        | [i, j], _ => exact ⟨i, j, rfl⟩
      · obtain ⟨x, px, ts, rfl, x1, x2, h1⟩ := mPar_cons h1
        obtain ⟨y, py, ts, rfl, y1, y2, h1⟩ := mPar_cons h1
        cases mPar_nil h1
        simp only [lineOf, Bool.and_eq_true, beq_iff_eq, and_true] at h2
        match vs, hlen with
        | [a, b], hlen =>
          have hij : i ≠ j := by simpa using nd
          have x2' : X.env.scope.names.lookup x = some .local := by rw [hsc]; exact x2
          have y2' : X.env.scope.names.lookup y = some .local := by rw [hsc]; exact y2
          have hne : x ≠ y := nd_ne C.gd.nd hij x1 y1
          have hw : swappedStores [.Tuple [.Name x px, .Name y py] k1 p1] (.Tuple [a, b] k2 p2) X.env = pure (some [x, y]) := by
            refine swap_of kd hlen (.inl rfl) nst_ ?_ rfl (eraseDups2 hne) f1 f2
            simp [Env.kindOf, x2', y2', h2.2, Expr.pos]
          refine PS.imp (ps_par C.gd.calm hN (by rw [C.gd.hN]; exact x1) (by rw [C.gd.hN]; exact y1) hij x2' y2' pa hw rfl) fun D σ H q => ?_
          obtain ⟨env, w, kk, rfl, ho, hc, hm, pk⟩ := q
          refine ⟨env, w, _, _, rfl, ho, hc, hm, fun us w1 hu g1 c1 rs rv => ?_, pk.ex⟩
          obtain ⟨e1, hs, hn⟩ := hu
          match us, rs, rv, hs with
          | [u1, u2], [r1, r2], .cons q1 (.cons q2 .nil), hs =>
            simp only [setAll, Option.some.injEq] at hs
            subst hs
            exact ⟨r1, r2, rfl, pk.nx _ w1 hn g1 c1 _ (((ho.grow hc g1).set i q1).set j q2)⟩
          | [], _, _, hs => simp [setAll] at hs
          | [_], _, _, hs => simp [setAll] at hs
          | _ :: _ :: _ :: _, _, _, hs => simp [setAll] at hs
    · obtain ⟨i, j, l, rfl⟩ : ∃ i j l, is = [i, j, l] := by
        match is, two with
        | [i, j, l], _ => exact ⟨i, j, l, rfl⟩
      · obtain ⟨x, px, ts, rfl, x1, x2, h1⟩ := mPar_cons h1
        obtain ⟨y, py, ts, rfl, y1, y2, h1⟩ := mPar_cons h1
        obtain ⟨z, pz, ts, rfl, z1, z2, h1⟩ := mPar_cons h1
        cases mPar_nil h1
        simp only [lineOf, Bool.and_eq_true, beq_iff_eq, and_true] at h2
        match vs, hlen with
        | [a, b, c], hlen =>
          have hij : i ≠ j ∧ i ≠ l ∧ j ≠ l := by
            simp at nd
            exact ⟨nd.1.1, nd.1.2, nd.2⟩
          obtain ⟨hij, hil, hjl⟩ := hij
          have x2' : X.env.scope.names.lookup x = some .local := by rw [hsc]; exact x2
          have y2' : X.env.scope.names.lookup y = some .local := by rw [hsc]; exact y2
          have z2' : X.env.scope.names.lookup z = some .local := by rw [hsc]; exact z2
          have hw : swappedStores [.Tuple [.Name x px, .Name y py, .Name z pz] k1 p1] (.Tuple [a, b, c] k2 p2) X.env = pure (some [x, y, z]) := by
            refine swap_of kd hlen (.inr rfl) nst_ ?_ rfl (eraseDups3 (nd_ne C.gd.nd hij x1 y1) (nd_ne C.gd.nd hil x1 z1) (nd_ne C.gd.nd hjl y1 z1)) f1 f2
            simp [Env.kindOf, x2', y2', z2', h2.2.1, h2.2.2, Expr.pos]
          refine PS.imp (ps_par3 C.gd.calm hN (by rw [C.gd.hN]; exact x1) (by rw [C.gd.hN]; exact y1) (by rw [C.gd.hN]; exact z1) hij hil hjl x2' y2' z2' pa hw rfl) fun D σ H q => ?_
          obtain ⟨env, w, kk, rfl, ho, hc, hm, pk⟩ := q
          refine ⟨env, w, _, _, rfl, ho, hc, hm, fun us w1 hu g1 c1 rs rv => ?_, pk.ex⟩
          obtain ⟨e1, hs, hn⟩ := hu
          match us, rs, rv, hs with
          | [u1, u2, u3], [r1, r2, r3], .cons q1 (.cons q2 (.cons q3 .nil)), hs =>
            simp only [setAll, Option.some.injEq] at hs
            subst hs
            exact ⟨r1, r2, r3, rfl, pk.nx _ w1 hn g1 c1 _ ((((ho.grow hc g1).set i q1).set j q2).set l q3)⟩
          | [], _, _, hs => simp [setAll] at hs
          | [_], _, _, hs => simp [setAll] at hs
          | [_, _], _, _, hs => simp [setAll] at hs
          | _ :: _ :: _ :: _ :: _, _, _, hs => simp [setAll] at hs
  · cases h
theorem fm_lt {α β : Type} {f : α → Option β} : ∀ {l : List α}, (∃ a ∈ l, f a = none) → (l.filterMap f).length < l.length
  | [], ⟨a, h, _⟩ => by cases h
  | x :: l, ⟨a, h, e⟩ => by
    have le : (l.filterMap f).length ≤ l.length := List.length_filterMap_le ..
    rcases List.mem_cons.mp h with rfl | h
    · rw [List.filterMap_cons_none e, List.length_cons]; omega
    · have := fm_lt (l := l) ⟨a, h, e⟩
      cases q : f x with
      | none => rw [List.filterMap_cons_none q, List.length_cons]; omega
      | some y => rw [List.filterMap_cons_some q, List.length_cons, List.length_cons]; omega
theorem cell_none {ts vs : List Expr} {k1 k2 : Nat} {p1 p2 : Pos} {env : Env} (h : ∃ x q, Expr.Name x q ∈ ts ∧ env.kindOf x ≠ some .local) : swappedStores [.Tuple ts k1 p1] (.Tuple vs k2 p2) env = pure none := by
  obtain ⟨x, q, hm, hk⟩ := h
  have lt : (ts.filterMap fun
      | .Name id pos => if env.kindOf id == some .local && pos.line == (ts.head?.map (·.pos.line)).getD 0 then some id else none
      | _ => none).length < ts.length := fm_lt ⟨_, hm, by
        have e : (env.kindOf x == some .local) = false := by simpa using hk
        simp [e]⟩
  have ne : ((ts.filterMap fun
      | .Name id pos => if env.kindOf id == some .local && pos.line == (ts.head?.map (·.pos.line)).getD 0 then some id else none
      | _ => none).length != ts.length) = true := by simpa using Nat.ne_of_lt lt
  unfold swappedStores
  simp only [pure_bind]
  split
  · rfl
  split
  · rfl
  split
  · rfl
  · rename_i hn
    exact absurd (by simp only [Bool.or_eq_true]; exact .inl ne) hn
def setV : List Nat → List V → L2.St → Option L2.St
  | [], [], σ => some σ
  | i :: is, v :: vs, σ => setV is vs (σ.set i (some v))
  | _, _, _ => none
def tSetAll (is : List Nat) : TGs := fun vs σ H Q => ∃ σ', setV is vs σ = some σ' ∧ Q σ' H
theorem mNames_nst {is : List Nat} : ∀ {ts : List Expr}, mNames N sc is ts = true → (assignEach ts X.env).length = ts.length ∧ (assignEach ts X.env).findIdx? (·.1) = none := by
  induction is with
  | nil =>
    intro ts h
    cases ts with
    | nil => exact ⟨rfl, rfl⟩
    | cons _ _ => cases h
  | cons i is ih =>
    intro ts h
    cases ts with
    | nil => cases h
    | cons t ts =>
      cases t with
      | Name x p =>
        obtain ⟨_, h3⟩ := and_iff h
        obtain ⟨k1, k2⟩ := ih h3
        rw [asg_cons (by rfl)]
        refine ⟨by rw [List.length_cons, List.length_cons, k1], ?_⟩
        rw [List.findIdx?_cons, k2] <;> rfl
      | _ => cases h
theorem pgs_names (C : CxtS X N sc k T W) : ∀ {is : List Nat} {ts : List Expr}, mNames N sc is ts = true → PGs X ts (tSetAll is) := by
  have hN : X.N.Nodup := by rw [C.gd.hN]; exact C.gd.nd
  intro is
  induction is with
  | nil =>
    intro ts h
    cases ts with
    | nil =>
      refine PGs.imp pgs_nil fun vs σ H Q ⟨σ', e, q⟩ => ?_
      cases vs with
      | nil =>
        cases e
        exact ⟨rfl, q⟩
      | cons _ _ => cases e
    | cons _ _ => cases h
  | cons i is ih =>
    intro ts h
    cases ts with
    | nil => cases h
    | cons t ts =>
      cases t with
      | Name x p =>
        obtain ⟨h, h3⟩ := and_iff h
        obtain ⟨h1, h2⟩ := and_iff h
        refine PGs.imp (pgs_cons (pg_name hN (by rw [C.gd.hN]; exact dec_of h1) (C.loc_ h2) (.inl (C.fnt x))) (ih h3) (by rw [asg_cons (by rfl)]; rfl)) fun vs σ H Q ⟨σ', e, q⟩ => ?_
        cases vs with
        | nil => cases e
        | cons v vs => exact ⟨v, vs, rfl, σ', e, q⟩
      | _ => cases h
theorem setAll_rel {w : Wd} : ∀ {is : List Nat} {us : List EV} {rs : List V} {env e1 : Ev} {σ : L2.St}, RVs K w rs us → EOk K w σ env → setAll is us env = some e1 → ∃ σ', setV is rs σ = some σ' ∧ EOk K w σ' e1
  | [], [], _, env, e1, σ, .nil, ho, h => by cases h; exact ⟨σ, rfl, ho⟩
  | i :: is, u :: us, _, env, e1, σ, .cons r t, ho, h => by
    obtain ⟨σ', a, b⟩ := setAll_rel (is := is) t (ho.set i r) h
    exact ⟨σ', a, b⟩
  | [], _ :: _, _, _, _, _, _, _, h => by cases h
  | _ :: _, [], _, _, _, _, _, _, h => by cases h
theorem setAll_len : ∀ {is : List Nat} {us : List EV} {env e1 : Ev}, setAll is us env = some e1 → us.length = is.length
  | [], [], _, _, _ => rfl
  | _ :: is, _ :: us, _, _, h => by rw [List.length_cons, List.length_cons, setAll_len (is := is) (us := us) h]
  | [], _ :: _, _, _, h => by cases h
  | _ :: _, [], _, _, h => by cases h
theorem mNames_len {is : List Nat} : ∀ {ts : List Expr}, mNames N sc is ts = true → is.length = ts.length := by
  induction is with
  | nil =>
    intro ts h
    cases ts with
    | nil => rfl
    | cons _ _ => cases h
  | cons i is ih =>
    intro ts h
    cases ts with
    | nil => cases h
    | cons t ts =>
      cases t with
      | Name x p =>
        obtain ⟨_, h3⟩ := and_iff h
        rw [List.length_cons, List.length_cons, ih h3]
      | _ => cases h
theorem snd_par2 {is : List Nat} {es : EL} : SndS T (.par2 is es) := by
  intro X N sc k W C p h
  simp only [mS] at h
  split at h
  · rename_i ts k1 p1 vs k2 p2 p3
    obtain ⟨h, h3⟩ := and_iff h
    obtain ⟨h1, h2⟩ := and_iff h
    obtain ⟨t, ht, hl⟩ := List.any_eq_true.mp h2
    have hw : swappedStores [.Tuple ts k1 p1] (.Tuple vs k2 p2) X.env = pure none := by
      cases t with
      | Name x q =>
        refine cell_none ⟨x, q, ht, ?_⟩
        have hl' : ¬ sc.names.lookup x = some .local := by simpa [noLoc] using hl
        show X.env.scope.names.lookup x ≠ _
        rw [C.gd.scp]
        exact hl'
      | _ => cases hl
    obtain ⟨a1, a2⟩ := mNames_nst (X := X) h1
    refine PS.imp (ps_asg (pe_tup (sndL T es C.toCxt vs h3).1) (pg_tup C.gd.calm (pgs_names C h1) a1 a2) (swaps_tup (p := .Tuple vs k2 p2) (es := ts) (kk := k1) (pos := p1) p3.line X.env) hw rfl) fun D σ H q => ?_
    obtain ⟨env, w, kk, rfl, ho, hc, hm, pk⟩ := q
    refine ⟨env, w, _, _, rfl, ho, hc, hm, fun us w1 hu g1 c1 rs rv => ?_, pk.ex⟩
    obtain ⟨hz, e1, hs, hn⟩ := hu
    refine ⟨by rw [sizeLine_eq, rv.length]; exact hz, fun p0 hp => ?_⟩
    have ga := Grow.alloc c1 (p := p0) (o := .tup rs) hp
    have ca := c1.alloc (p := p0) (o := .tup rs) hp
    have rva := RVs.grow c1 ga rv
    obtain ⟨σ', z1, z2⟩ := setAll_rel rva ((ho.grow hc g1).grow c1 ga) hs
    exact ⟨p0, rs, rfl, .inl (.inl upd_same), by rw [rv.length, setAll_len hs, mNames_len h1], σ', z1, pk.nx e1 { w1 with H := upd w1.H p0 (.tup rs) } hn (g1.trans ga) ca σ' z2⟩
  · cases h
theorem snd_for {t : Mini.T} {it : I} {b : B} (hb : SndB T b) : SndS T (.for_ t it b) := by
  intro X N sc k W C p h
  simp only [mS] at h
  split at h
  · rename_i tg iter body pos
    obtain ⟨h, h3⟩ := and_iff h
    obtain ⟨h1, h2⟩ := and_iff h
    obtain ⟨pi, hset⟩ := sndI T it C.toCxt tg iter h2
    refine PS.imp (ps_for C.po C.gd.calm pi (sndT t (X := X) C.gd.hN C.gd.nd C.gd.calm C.store tg h1) (hb C body h3) hset) fun D σ H q => ?_
    obtain ⟨env, w, kk, rfl, ho, hc, hm, pk⟩ := q
    refine ⟨env, w, _, _, rfl, ho, hc, hm, fun items chk w1 J hR g1 c1 hk itr => ?_, pk.ex⟩
    let Iv : Nat → L2.St → Hp → Prop := fun i σ H => ∃ (w' : Wd) (env' : Ev), w'.H = H ∧ Grow w1 w' ∧ COk X.K w' ∧ EOk X.K w' σ env' ∧ chk w'.st ∧ i ≤ items.length ∧ forGo (bindT t) (denB T b) chk (items.drop i) env' w'.st kk
    refine ⟨fun i m σ H => m = items.length - i ∧ Iv i σ H, ⟨items.length, rfl, w1, env, rfl, .refl w1, c1, ho.grow hc g1, hk, Nat.zero_le _, hR⟩, ?_⟩
    rintro i m σ1 H ⟨rfl, w', env', rfl, gr, c', eo, ck, hi, hgo⟩
    obtain ⟨it1, it2⟩ := itr w' gr.later c' ck i
    by_cases hlt : i < items.length
    · right
      obtain ⟨go, yl⟩ := it1 hlt
      refine ⟨go, Iv (i + 1), fun σ' H' q => ⟨items.length - (i + 1), by omega, rfl, q⟩, fun x H' hy => ?_⟩
      obtain ⟨w2, rfl, est, g2, c2, d, hd, rdx⟩ := yl x H' hy
      rw [drop_at hd] at hgo
      simp only [forGo] at hgo
      obtain ⟨e1, hbd, hgo⟩ := hgo
      refine ⟨env', w2, d, e1, rfl, eo.grow c' g2, c2, rdx, hbd, fun σ' eo' _ => ⟨e1, w2, _, rfl, eo', c2, by rw [est]; exact hgo, ?_⟩⟩
      have gt : Grow w w2 := g1.trans (gr.trans g2)
      have next : PN X.K w2 (fun e s => chk s ∧ forGo (bindT t) (denB T b) chk (items.drop (i + 1)) e s kk) (Iv (i + 1)) := fun e w3 h3 g3 c3 σ3 eo3 => ⟨w3, e, rfl, gr.trans (g2.trans g3), c3, eo3, h3.1, hlt, h3.2⟩
      exact ⟨next, pk.rt.grow gt, pk.nx.grow gt, next, pk.ex.blind C.bl gt⟩
    · left
      have e : i = items.length := by omega
      subst e
      rw [List.drop_length] at hgo
      simp only [forGo] at hgo
      exact ⟨it2 (Nat.le_refl _), pk.nx env' w' hgo (g1.trans gr) c' σ1 eo⟩
  · cases h
theorem snd_whl {c : E} {b : B} (hb : SndB T b) : SndS T (.whl c b) := by
  intro X N sc k W C p h
  simp only [mS] at h
  split at h
  · rename_i x y pos
    obtain ⟨h1, h2⟩ := and_iff h
    refine PS.imp (ps_while C.po (sndE T c C.toCxt x h1).2 (hb C y h2)) fun D σ H q => ?_
    obtain ⟨env, w, kk, rfl, ho, hc, ⟨n, hm⟩, pk⟩ := q
    refine ⟨fun m σ H => ∃ (w' : Wd) (env' : Ev), w'.H = H ∧ Grow w w' ∧ COk X.K w' ∧ EOk X.K w' σ env' ∧ whlGo (den T c).t (denB T b) m env' w'.st kk, ⟨n, w, env, rfl, .refl w, hc, ho, hm⟩, ?_⟩
    rintro m σ1 H ⟨w', env', rfl, gr, c', eo, hgo⟩
    cases m with
    | zero => exact hgo.elim
    | succ m =>
      simp only [whlGo] at hgo
      refine ⟨env', w', _, _, rfl, eo, c', hgo, fun bb w2 hb2 g2 c2 => ?_, pk.ex.blind C.bl gr⟩
      have gt : Grow w w2 := gr.trans g2
      cases bb with
      | false =>
        simp only [Bool.false_eq_true, if_false] at hb2 ⊢
        exact pk.nx env' w2 hb2 gt c2 σ1 (eo.grow c' g2)
      | true =>
        simp only [if_true] at hb2 ⊢
        refine ⟨fun σ' H' => ∃ (w' : Wd) (env' : Ev), w'.H = H' ∧ Grow w w' ∧ COk X.K w' ∧ EOk X.K w' σ' env' ∧ whlGo (den T c).t (denB T b) m env' w'.st kk, fun σ' H' q => ⟨m, Nat.lt_succ_self m, q⟩, env', w2, _, rfl, eo.grow c' g2, c2, hb2, ?_⟩
        have next : PN X.K w2 (fun e s => whlGo (den T c).t (denB T b) m e s kk) (fun σ' H' => ∃ (w' : Wd) (env' : Ev), w'.H = H' ∧ Grow w w' ∧ COk X.K w' ∧ EOk X.K w' σ' env' ∧ whlGo (den T c).t (denB T b) m env' w'.st kk) :=
          fun e w3 h3 g3 c3 σ3 eo3 => ⟨w3, e, rfl, gt.trans g3, c3, eo3, h3⟩
        exact ⟨next, pk.rt.grow gt, pk.nx.grow gt, next, pk.ex.blind C.bl gt⟩
  · cases h
end
mutual
theorem sndS (T : Tab) : ∀ s : S, SndS T s
  | .expr e => snd_expr
  | .asg t e => snd_asg
  | .par is es => snd_par
  | .par2 is es => snd_par2
  | .set o i v => snd_set
  | .app o v => snd_app
  | .ite c a b => snd_ite_s (sndB T a) (sndB T b)
  | .for_ t it b => snd_for (sndB T b)
  | .whl c b => snd_whl (sndB T b)
  | .ret e => snd_ret
  | .retN => snd_retN
  | .brk => snd_brk
  | .pass => snd_pass
  | .stuck => snd_stuck
theorem sndB (T : Tab) : ∀ b : B, SndB T b
  | .nil => snd_bnil
  | .cons s b => snd_bcons (sndS T s) (sndB T b)
end
end Mini

/-! Mini, part I: a def keeps its promise; the law's end. -/
namespace Mini
open PySem PySem.Spec PyProof.Rows L2

/-! ### behind a def its cells are gone -/
section
variable {K : PySem.W.Frag} {w w' : Wd}
mutual
theorem RD.keeps (g : ∀ b o, w.H b = some o → ¬ w.own b → w'.H b = some o ∧ ¬ w'.own b) : ∀ (d : PyData) (v : V), RD K w v d → RD K w' v d
  | .none, _, .non => .non
  | .bool b, _, .bl _ => .bl b
  | .int i, _, .int _ => .int i
  | .str x, _, .str _ => .str x
  | .list ds, _, .lst h r => .lst (by
      rcases h with ⟨h, n⟩ | h
      · left
        rcases h with h | ⟨o, h⟩
        · exact ⟨.inl (g _ _ h n).1, (g _ _ h n).2⟩
        · exact ⟨.inr ⟨o, (g _ _ h n).1⟩, (g _ _ h n).2⟩
      · exact .inr h) (RDs.keeps g ds _ r)
  | .tuple ds, _, .tup h r => .tup (by
      rcases h with ⟨h, n⟩ | h
      · left
        rcases h with h | ⟨o, h⟩
        · exact ⟨.inl (g _ _ h n).1, (g _ _ h n).2⟩
        · exact ⟨.inr ⟨o, (g _ _ h n).1⟩, (g _ _ h n).2⟩
      · exact .inr h) (RDs.keeps g ds _ r)
  | .dict ps, _, .dct h n r => .dct (g _ _ h n).1 (g _ _ h n).2 (RDp.keeps g ps _ r)
theorem RDs.keeps (g : ∀ b o, w.H b = some o → ¬ w.own b → w'.H b = some o ∧ ¬ w'.own b) : ∀ (ds : List PyData) (vs : List V), RDs K w vs ds → RDs K w' vs ds
  | [], _, .nil => .nil
  | d :: ds, _, .cons h t => .cons (RD.keeps g d _ h) (RDs.keeps g ds _ t)
theorem RDp.keeps (g : ∀ b o, w.H b = some o → ¬ w.own b → w'.H b = some o ∧ ¬ w'.own b) : ∀ (ps : List (PyData × PyData)) (kvs : List (Key × V)), RDp K w kvs ps → RDp K w' kvs ps
  | [], _, .nil => .nil
  | (_, d) :: ps, _, .cons h t => .cons (RD.keeps g d _ h) (RDp.keeps g ps _ t)
end
def Wd.cut (w : Wd) (n : Nat) : Wd := { w with st := w.st.take n }
theorem cut_live {n : Nat} {b : Addr} (h : (w.cut n).live b) : w.live b := by
  obtain ⟨m, hm, e⟩ := h
  exact ⟨m, by have : m < (w.st.take n).length := hm; rw [List.length_take] at this; omega, e⟩
theorem cut_keeps {n : Nat} : ∀ b o, w.H b = some o → ¬ w.own b → (w.cut n).H b = some o ∧ ¬ (w.cut n).own b := fun b o e h => ⟨e, fun z => h (z.elim (fun l => .inl (cut_live l)) .inr)⟩
theorem COk.cut (c : COk K w) (n : Nat) : COk K (w.cut n) where
  cell := fun m xs e => by
    have e' : (w.st.take n)[m]? = some xs := e
    rw [List.getElem?_take] at e'
    split at e'
    · obtain ⟨vs, h1, h2⟩ := c.cell m xs e'
      exact ⟨vs, h1, RDs.keeps cut_keeps xs vs h2⟩
    · cases e'
  inj := fun a b ha hb e => by
    have ha' : a < (w.st.take n).length := ha
    have hb' : b < (w.st.take n).length := hb
    rw [List.length_take] at ha' hb'
    exact c.inj a b (by omega) (by omega) e
  forb := fun b f => ⟨(c.forb b f).1, fun z => (c.forb b f).2 (cut_live z)⟩
theorem Grow.cut (g : Grow w w') : Grow w (w'.cut w.st.length) where
  len := by
    show w.st.length ≤ (w'.st.take w.st.length).length
    rw [List.length_take]
    have := g.len
    omega
  io := g.io
  keep := fun b o e n => ⟨(g.keep b o e n).1, fun z => (g.keep b o e n).2 (cut_live z)⟩
  there := g.there
  ff := g.ff
/-- the cell n as the only one behind the first n0 -/
def Wd.mv (w : Wd) (n0 n : Nat) (xs : List PyData) : Wd := { w with st := w.st.take n0 ++ [xs], ι := fun m => if m = n0 then w.ι n else w.ι m }
section
variable {n0 n : Nat} {xs : List PyData}
theorem mv_live (hn : n < w.st.length) (h0 : n0 ≤ n) {b : Addr} (h : (w.mv n0 n xs).live b) : w.live b := by
  obtain ⟨m, hm, e⟩ := h
  have hm' : m < (w.st.take n0 ++ [xs]).length := hm
  rw [List.length_append, List.length_take, List.length_singleton] at hm'
  have e' : (if m = n0 then w.ι n else w.ι m) = b := e
  by_cases q : m = n0
  · rw [if_pos q] at e'
    exact ⟨n, hn, e'⟩
  · rw [if_neg q] at e'
    exact ⟨m, by omega, e'⟩
theorem mv_keeps (hn : n < w.st.length) (h0 : n0 ≤ n) : ∀ b o, w.H b = some o → ¬ w.own b → (w.mv n0 n xs).H b = some o ∧ ¬ (w.mv n0 n xs).own b := fun b o e h => ⟨e, fun z => h (z.elim (fun l => .inl (mv_live hn h0 l)) .inr)⟩
theorem COk.mv (c : COk K w) (hn : n < w.st.length) (h0 : n0 ≤ n) (hx : w.st[n]? = some xs) : COk K (w.mv n0 n xs) where
  cell := fun m ys e => by
    have e' : (w.st.take n0 ++ [xs])[m]? = some ys := e
    have hm := (List.getElem?_eq_some_iff.mp e').1
    rw [List.length_append, List.length_take, List.length_singleton] at hm
    by_cases q : m = n0
    · subst q
      rw [List.getElem?_append_right (by rw [List.length_take]; omega), List.length_take, Nat.min_eq_left (by omega), Nat.sub_self] at e'
      cases e'
      obtain ⟨vs, h1, h2⟩ := c.cell n xs hx
      exact ⟨vs, by show w.H (if m = m then w.ι n else w.ι m) = _; rw [if_pos rfl]; exact h1, RDs.keeps (mv_keeps hn h0) xs vs h2⟩
    · rw [List.getElem?_append_left (by rw [List.length_take]; omega), List.getElem?_take, if_pos (by omega)] at e'
      obtain ⟨vs, h1, h2⟩ := c.cell m ys e'
      exact ⟨vs, by show w.H (if m = n0 then w.ι n else w.ι m) = _; rw [if_neg q]; exact h1, RDs.keeps (mv_keeps hn h0) ys vs h2⟩
  inj := fun a b ha hb e => by
    have ha' : a < (w.st.take n0 ++ [xs]).length := ha
    have hb' : b < (w.st.take n0 ++ [xs]).length := hb
    rw [List.length_append, List.length_take, List.length_singleton] at ha' hb'
    have e' : (if a = n0 then w.ι n else w.ι a) = (if b = n0 then w.ι n else w.ι b) := e
    by_cases qa : a = n0 <;> by_cases qb : b = n0
    · omega
    · rw [if_pos qa, if_neg qb] at e'
      have := c.inj n b hn (by omega) e'
      omega
    · rw [if_neg qa, if_pos qb] at e'
      have := c.inj a n (by omega) hn e'
      omega
    · rw [if_neg qa, if_neg qb] at e'
      exact c.inj a b (by omega) (by omega) e'
  forb := fun b f => ⟨(c.forb b f).1, fun z => (c.forb b f).2 (mv_live hn h0 z)⟩
theorem Grow.mv (g : Grow w w') (hn : n < w'.st.length) (h0 : w.st.length ≤ n) : Grow w (w'.mv w.st.length n xs) where
  len := by
    show w.st.length ≤ (w'.st.take w.st.length ++ [xs]).length
    rw [List.length_append, List.length_take]
    have := g.len
    omega
  io := fun m hm => by
    show (if m = w.st.length then w'.ι n else w'.ι m) = _
    rw [if_neg (by omega)]
    exact g.io m hm
  keep := fun b o e h => ⟨(g.keep b o e h).1, fun z => (g.keep b o e h).2 (mv_live hn h0 z)⟩
  there := g.there
  ff := g.ff
end
theorem fin_ok {keep : Nat} {Qm : QE} {Q : VK} (p : PV K w Qm Q) : PV K w (fun v s => fin keep w.st.length Qm v s) Q := by
  intro v w1 h g c r rv
  match keep with
  | 1 => exact p v w1 h g c r rv
  | k + 2 =>
    obtain ⟨n, xs, rfl, h0, hx, q⟩ := h
    obtain ⟨hn, rfl⟩ := rv
    have hg := g.len
    refine p (.cell w.st.length) (w1.mv w.st.length n xs) q (g.mv hn h0) (c.mv hn h0 hx) _ ⟨?_, ?_⟩
    · show w.st.length < (w1.st.take w.st.length ++ [xs]).length
      rw [List.length_append, List.length_take, List.length_singleton]
      omega
    · show V.ref (w1.ι n) = .ref (if w.st.length = w.st.length then w1.ι n else _)
      rw [if_pos rfl]
  | 0 =>
    cases v with
    | d x => exact p (.d x) (w1.cut w.st.length) h g.cut (c.cut _) r (RD.keeps cut_keeps x r rv)
    | cell n =>
      obtain ⟨hn, rfl⟩ := rv
      have h' : if n < w.st.length then Qm (.cell n) (w1.st.take w.st.length) else ∃ xs, w1.st[n]? = some xs ∧ Qm (.d (.list xs)) (w1.st.take w.st.length) := h
      split at h'
      · rename_i hlt
        refine p (.cell n) (w1.cut w.st.length) h' g.cut (c.cut _) _ ⟨?_, rfl⟩
        show n < (w1.st.take w.st.length).length
        rw [List.length_take]
        omega
      · rename_i hge
        obtain ⟨xs, e1, q⟩ := h'
        obtain ⟨vs, h1, h2⟩ := c.cell n xs e1
        refine p (.d (.list xs)) (w1.cut w.st.length) q g.cut (c.cut _) _ (.lst (.inl ⟨.inl h1, fun z => ?_⟩) (RDs.keeps cut_keeps xs vs h2))
        rcases z with ⟨m, hm, e⟩ | f
        · have hm' : m < (w1.st.take w.st.length).length := hm
          rw [List.length_take] at hm'
          have := c.inj m n (by omega) hn e
          omega
        · exact (c.forb _ f).2 ⟨n, hn, rfl⟩
theorem finX_ok {mg : Str → Option Value} {Xm : QX} {E : XK} (p : PX K mg w Xm E) : PX K mg w (finX w.st.length Xm) E := by
  intro e w1 cls d h g c ⟨h1, dd, v, h2, h3, h4⟩
  obtain ⟨hx, hv⟩ := h
  refine p e (w1.cut w.st.length) cls d hx g.cut (c.cut _) ⟨h1, dd, v, h2, h3, ?_⟩
  cases q : e.val with
  | d x =>
    rw [q] at h4
    exact RD.keeps cut_keeps x v h4
  | cell n =>
    rw [q] at h4 hv
    refine ⟨?_, h4.2⟩
    show n < (w1.st.take w.st.length).length
    rw [List.length_take]
    have := h4.1
    have hv' : n < w.st.length := hv
    omega
theorem RVs.get : ∀ {vs : List V} {es : List EV} {i : Nat} {e : EV}, RVs K w vs es → es[i]? = some e → ∃ v, vs[i]? = some v ∧ RV K w v e
  | _, _, _, _, .nil, h => by simp at h
  | _, _, 0, _, .cons h t, e => by simp at e; subst e; exact ⟨_, rfl, h⟩
  | _, _, i + 1, e, .cons _ t, h => by
    obtain ⟨v, h1, h2⟩ := RVs.get (i := i) (e := e) t (by simpa using h)
    exact ⟨v, by simpa using h1, h2⟩
/-- the slots at the entry -/
theorem entry_ok {N : List Str} {vs : List V} {es : List EV} (r : RVs K w vs es) : EOk K w (L2.start N vs) (es.map some ++ List.replicate (N.length - es.length) none) := by
  have n := r.length
  refine ⟨by simp [L2.start, n], fun i v h => ?_⟩
  by_cases hi : i < es.length
  · rw [List.getElem?_append_left (by simpa using hi), List.getElem?_map] at h
    obtain ⟨e, h1, h2⟩ := Option.map_eq_some_iff.mp h
    cases h2
    obtain ⟨u, h3, h4⟩ := r.get h1
    refine ⟨u, ?_, h4⟩
    unfold L2.start
    rw [List.getElem?_append_left (by simpa [n] using hi), List.getElem?_map, h3] <;> rfl
  · rw [List.getElem?_append_right (by simpa using hi), List.getElem?_replicate] at h
    split at h <;> cases h
end

section
variable {P : Program} {wd : World} {K : PySem.W.Frag} {mg : Str → Option Value} {base : Heap}
/-- the body's context -/
theorem body_cxt {N : List Str} {qual : Str} {sc : Scope} {f : Addr} {cd : Value} {A : Around} {outer : List Env} {s : Shared} {H : Hp} {E : XK} {k : Nat} {T : Tab} {ps : List Str} (S : FnScope N ps sc) (hr : Room k (A.deeper (envOfC qual sc s.heap.objs.size f cd)))
    (hg : A.guards = some []) (fa : Facts P wd K mg base k T) : CxtS (cxOf (L2.CX P wd) P wd K mg base N qual sc f cd A outer s H E) N sc k T (fun cls d _ H => E cls d H) where
  tk := takes_of rfl rfl rfl rfl
  gd := ⟨rfl, rfl, S.nd, rfl, hr, hg, S.kind⟩
  fa := fa
  fnt := fun _ => rfl
  po := passes_of rfl
  bl := fun _ _ _ _ _ h => h
/-- THE RULE for a def -/
theorem def_ok {x qual : Str} {st : Stmt} {f : Addr} {fd : FuncData} {N ps : List Str} {k : Nat} {T : Tab} {sp : Spec} (F : Fun K x qual st f fd) (S : FnScope N ps (defScope st)) (fa : Facts P wd K mg base k T) (d : Def)
    (hnp : d.np = ps.length) (hns : d.ns = N.length) (hm : mB T N (defScope st) d.body (defBody st) = true) (hs : ∀ es s Q X, es.length = d.np → sp es s Q X → denF T d es s Q X) :
    GFn P wd K mg base (L2.CX P wd) (k + 1) f fd ps (spOf K mg ps.length sp) := by
  obtain ⟨oc, od, kV, doc, pm, an, cdv, ct, osl, rfl, lk, hcd⟩ := F.ex
  have hlen : ∀ vs H Q E, spOf K mg ps.length sp vs H Q E → vs.length = ps.length := by
    rintro vs H Q E ⟨w, es, Qm, Xm, _, _, r, n, _⟩
    rw [r.length, n]
  refine ⟨hlen, fun A outer s H args us vs Q E hr hg e0 hb r hsp => ?_⟩
  have hl := hlen _ _ _ _ hsp
  have kin : K.In s.heap := e0.mod.kin.keeps fun b o e => (e0.bs b o e).1
  have nolim : s.heap.NoLimit := e0.mod.nolimit.keeps fun b o e => (e0.bs b o e).1
  have kinds : ∀ y ∈ ps.zip us, (defScope st).names.lookup y.1 = some .local ∨ ((defScope st).names.lookup y.1 = some .cell ∧ ((cellsFrom (s.heap.objs.size + 1) (defScope st).names []).lookup y.1).isSome = true) := by
    rintro ⟨n, v⟩ hy
    exact (S.par n (List.of_mem_zip hy).1).elim .inl fun q => .inr ⟨q, PySem.W.cellsFrom_some _ _ _ (.inl q)⟩
  refine codeAny_call_function hr.depth (kin _ _ lk) rfl S.co S.gen rfl (PySem.W.codeRec_of kin hcd) (hb _ _ _ _ (wpAny_newFunctionEnv_cells S.kind kinds fun env he s1 x => ?_))
  subst he
  refine ⟨nolim.keeps x.toInCall.keep, codeAny_func ?_⟩
  obtain ⟨w, es, Qm, Xm, rfl, c, rv, n, hsp, pv, px⟩ := hsp
  have C := body_cxt (P := P) (wd := wd) (K := K) (mg := mg) (base := base) (N := N) (qual := qual) (f := f) (cd := cdv) (outer := outer) (s := s) (H := w.H) (E := E) (T := T) S (hr.deeper _) hg fa
  have I := inv_start (CX := L2.CX P wd) (E := E) (qual := qual) (f := f) (cd := cdv) S hr.hd e0 hl r x
  have rd : RS K mg (fun cls d _ H => E cls d H) (denB T d.body) { nx := fun _ H' => Q .non H', rt := Q } (L2.start N vs) w.H := by
    refine ⟨_, w, { nx := fun _ s => fin d.keep w.st.length Qm (.d .none) s, rt := fun v s => fin d.keep w.st.length Qm v s, bk := fun _ _ => False, ct := fun _ _ => False, ex := finX w.st.length Xm }, rfl, entry_ok rv, c, ?_,
      ⟨fun e w1 h g1 c1 σ _ => fin_ok pv (.d .none) w1 h g1 c1 _ .non, fin_ok pv, fun _ _ h => h.elim, fun _ _ h => h.elim, finX_ok px⟩⟩
    have := hs es w.st Qm Xm (by rw [hnp]; exact n) hsp
    unfold denF at this
    rw [hns, hnp, ← n] at this
    exact this
  refine wpAny_mono ((sndB T d.body C (defBody st) hm).run [] s1 (L2.start N vs) w.H _ I rd) (fun fl s' hq => ?_) fun e s' h => h
  have close : ∀ {σ' : L2.St} {H' : Hp} {v : V} {u : Value}, L2.Inv (cxOf (L2.CX P wd) P wd K mg base N qual (defScope st) f cdv A outer s w.H E) [] σ' H' s' → RelV v u → Q v H' → CE outer P wd w.H s Q u s' :=
    fun {σ' H' v u} J rv q => ⟨v, H', J.os, J.bare, J.base, J.hok, rv, q⟩
  match fl, hq with
  | .ret u, ⟨v, σ', H', J, rv, q⟩ => exact close J rv q
  | .next, ⟨σ', H', J, q⟩ => exact close (v := .non) (u := .none) J rfl q
  | .brk, ⟨_, _, _, q⟩ => exact q.elim
  | .cont, ⟨_, _, _, q⟩ => exact q.elim
/-- a constant spec asks less -/
theorem GFn.imp {k : Nat} {f : Addr} {fd : FuncData} {ps : List Str} {n : Nat} {sp sp' : Spec} (F : GFn P wd K mg base (L2.CX P wd) k f fd ps (spOf K mg n sp)) (h : ∀ es s Q X, es.length = n → sp' es s Q X → sp es s Q X) : GFn P wd K mg base (L2.CX P wd) k f fd ps (spOf K mg n sp') :=
  have k : ∀ vs H Q E, spOf K mg n sp' vs H Q E → spOf K mg n sp vs H Q E := fun vs H Q E ⟨w, es, Qm, Xm, h1, h2, h3, h4, h5, h6⟩ => ⟨w, es, Qm, Xm, h1, h2, h3, h4, h es w.st Qm Xm h4 h5, h6⟩
  ⟨fun vs H Q E q => F.len vs H Q E (k _ _ _ _ q), fun A outer s H args us vs Q E hr hg he hb hv q => F.run A outer s H args us vs Q E hr hg he hb hv (k _ _ _ _ q)⟩
end

/-! ### the law's call -/
theorem rds_ints {K : PySem.W.Frag} {w : Wd} : ∀ ns : List Int, RDs K w (ns.map V.int) (ns.map PyData.int)
  | [] => .nil
  | n :: ns => .cons (.int n) (rds_ints ns)
/-- the world at the entry: nothing but the script -/
def entryW (H : Hp) : Wd := ⟨fun _ => 0, [], H, fun _ => False⟩
theorem entry_cok {K : PySem.W.Frag} {H : Hp} : COk K (entryW H) := ⟨fun n xs e => by simp [entryW] at e, fun n m h => by simp [entryW] at h, fun b f => f.elim⟩
section
variable {P : Program} {wd : World} {K : PySem.W.Frag} {mg mb : Str → Option Value}
/-- from an abstract heap that knows at most the script -/
theorem law_from {k : Nat} {fa a : Addr} {fd : FuncData} {x : Str} {sp : Spec} {s₁ : Shared} {vs : List Value} {ns : List Int} (H : Hp) (kin : K.In s₁.heap) (hns : s₁.heap.Ns mainGlobals mg) (hb : s₁.heap.Ns builtinsNs mb) (hbb : ∀ x : Str, x ≠ "__name__" → mb x = bootBuiltins x)
    (hlim : s₁.heap.NoLimit) (hg : s₁.gens = #[]) (ha : s₁.heap.get? a = some { cls := .type "list", data := .seq vs.toArray }) (hi : IntsAre vs ns) (hr : Room k callerA)
    (F : ∀ base : Heap, K.In base → base.Ns mainGlobals mg → GFn P wd K mg base (L2.CX P wd) k fa fd [x] (spOf K mg 1 sp)) (hbind : ∀ (s : Shared) (u : Value), BindsTo s fd ⟨[u], []⟩ [(x, u)])
    (hsp : sp [.d (.list (ns.map PyData.int))] [] (fun v _ => v = .d (.bool true)) fun _ _ => False)
    (hH : ∀ b o, H b = some o → b = a ∧ K.lookup a = none ∧ ∃ ob xs, o = .frz ob (.lst xs)) (hL : SL K (entryW H) a (ns.map V.int)) (hok : HOk P wd H s₁.heap) :
    codeAny (model P wd) callerA (.call (.ref fa) ⟨[.ref a], []⟩) (fun r s' => r = .ok (.ret (.bool true)) ∧ OldK s₁.heap s'.heap ∧ s'.os = s₁.os ∧ AllBare s'.gens) s₁ := by
  have stays : ∀ {b : Addr} {o : Obj}, s₁.heap.get? b = some o → H b = none → (hidT s₁.heap H).get? b = some o := fun e n => hidT_get e n
  have free : ∀ {b : Addr} {o : Obj} {es : Array DictEntry} {ep : Nat}, s₁.heap.get? b = some o → o.data = .dict es ep → H b = none := fun {b o es ep} e d => by
    cases q : H b with
    | none => rfl
    | some u =>
      obtain ⟨rfl, _⟩ := hH b u q
      rw [ha] at e
      cases e
      exact nomatch (show Data.seq vs.toArray _ = Data.dict es ep from d)
  have ns1 : ∀ {b : Addr} {m : Str → Option Value}, s₁.heap.Ns b m → (hidT s₁.heap H).Ns b m := fun {b m} ⟨o, es, ep, e, d, r⟩ => ⟨o, es, ep, stays e (free e d), d, r⟩
  have kin1 : K.In (hidT s₁.heap H) := fun b o e => stays (kin b o e) (by
    cases q : H b with
    | none => rfl
    | some u =>
      obtain ⟨rfl, hk, _⟩ := hH b u q
      rw [hk] at e
      cases e)
  have hM : Mod K mg (hidT s₁.heap H) := ⟨kin1, ns1 hns, ⟨mb, ns1 hb, hbb⟩, hlim.elim fun mc z => ⟨mc, ns1 z.1, z.2⟩⟩
  have e0 : Env0 P wd K mg (hidT s₁.heap H) callerA [] s₁ H := ⟨rfl, hM, fun b o e => of_hidT e, Nat.le_of_eq (hidT_size _ _), trivial, fun b hb => (nomatch hb), hok, .of_eq hg⟩
  have pre : spOf K mg 1 sp [.ref a] H (fun v _ => v = .bl true) (fun _ _ _ => False) :=
    ⟨entryW H, [.d (.list (ns.map PyData.int))], _, _, rfl, entry_cok, .cons (.lst hL (rds_ints ns)) .nil, rfl, hsp, fun v w' e g c r rv => by
      subst e
      cases rv
      rfl, fun e w' cls d h => h.elim⟩
  refine codeAny_mono ((F _ kin1 (ns1 hns)).run callerA [] s₁ H ⟨[.ref a], []⟩ [.ref a] [.ref a] _ _ hr rfl e0 (hbind s₁ (.ref a)) (.cons rfl .nil) pre) fun r s' h => ?_
  match r, h with
  | .ok (.ret u), ⟨v, H', os, bare, un, hok', r', q⟩ =>
    have q' : v = .bl true := q
    subst q'
    have eu : u = .bool true := r'
    subst eu
    refine ⟨rfl, OldK.of_keep fun b o e => ?_, os, bare⟩
    cases q : H b with
    | none => exact un.keep b o e q (fun z => nomatch z) (fun z => nomatch z)
    | some u =>
      obtain ⟨_, _, ob, xs, rfl⟩ := hH b u q
      have z2 := un.frzs b ob _ q
      obtain ⟨e1, _⟩ := hok b _ q
      obtain ⟨e2, _⟩ := hok' b _ z2
      rw [e] at e1
      cases e1
      exact e2
  | .ok .next, h => exact h.elim
  | .ok .brk, h => exact h.elim
  | .ok .cont, h => exact h.elim
  | .error e, ⟨_, _, _, _, _, _, _, _, _, _, _, _, z⟩ => exact z.elim
theorem law_at {k : Nat} {fa a : Addr} {fd : FuncData} {x : Str} {sp : Spec} {s₁ : Shared} {vs : List Value} {ns : List Int} (kin : K.In s₁.heap) (hns : s₁.heap.Ns mainGlobals mg) (hb : s₁.heap.Ns builtinsNs mb) (hbb : ∀ x : Str, x ≠ "__name__" → mb x = bootBuiltins x)
    (hlim : s₁.heap.NoLimit) (hg : s₁.gens = #[]) (ha : s₁.heap.get? a = some { cls := .type "list", data := .seq vs.toArray }) (hi : IntsAre vs ns) (hl : ns.length ≤ sizeLine) (hr : Room k callerA)
    (F : ∀ base : Heap, K.In base → base.Ns mainGlobals mg → GFn P wd K mg base (L2.CX P wd) k fa fd [x] (spOf K mg 1 sp)) (hbind : ∀ (s : Shared) (u : Value), BindsTo s fd ⟨[u], []⟩ [(x, u)])
    (hsp : sp [.d (.list (ns.map PyData.int))] [] (fun v _ => v = .d (.bool true)) fun _ _ => False) :
    codeAny (model P wd) callerA (.call (.ref fa) ⟨[.ref a], []⟩) (fun r s' => r = .ok (.ret (.bool true)) ∧ OldK s₁.heap s'.heap ∧ s'.os = s₁.os ∧ AllBare s'.gens) s₁ := by
  have rv := vals_ints hi
  have len := hi.length
  cases hk : K.lookup a with
  | some o =>
    have e := kin a o hk
    rw [ha] at e
    cases e
    exact law_from (fun _ => none) kin hns hb hbb hlim hg ha hi hr F hbind hsp (fun b o z => nomatch z) (.inr ⟨vs, _, hk, by rw [len]; exact hl, rv⟩) fun b u z => nomatch z
  | none =>
    refine law_from (fun b => if b = a then some (.frz { cls := .type "list", data := .seq vs.toArray } (.lst (ns.map V.int))) else none) kin hns hb hbb hlim hg ha hi hr F hbind hsp (fun b o z => ?_) (.inl ⟨.inr ⟨{ cls := .type "list", data := .seq vs.toArray }, if_pos rfl⟩, fun z => ?_⟩) fun b u z => ?_
    · by_cases h : b = a
      · rw [if_pos h] at z
        exact ⟨h, hk, _, _, (Option.some.inj z).symm⟩
      · rw [if_neg h] at z
        cases z
    · rcases z with ⟨n, hn, _⟩ | f
      · simp [entryW] at hn
      · exact f
    · dsimp only at z
      by_cases h : b = a
      · rw [if_pos h] at z
        cases z
        subst h
        exact ⟨ha, by rw [List.length_map]; exact hl, vs, _, rv, ha⟩
      · rw [if_neg h] at z
        cases z
/-- what k_head leaves, from the spec of the law's def -/
theorem walk_by {l : PySem.W.OpenLaw} {n k : Nat} {q : Program} {loose : List Str} {XP : (Str → Option Value) → Heap → Prop} {YP : World → Heap → Prop} {d : DefRec} {KK : Params → PySem.W.Frag} {sp : Spec} {x : Str}
    (hn : l.most = some n) (hn2 : n ≤ sizeLine) (hdf : d.params.defaults = []) (hr : Room k callerA) (hY : ∀ (w : World) (h : Heap), YP w h → (KK w.params).In h)
    (F : ∀ (w : World) (mg : Str → Option Value) (fa : Addr) (h : Heap), (KK w.params).In h → h.Ns mainGlobals mg → mg d.name = some (.ref fa) → ∃ fd : FuncData, (∀ (s : Shared) (u : Value), BindsTo s fd ⟨[u], []⟩ [(x, u)]) ∧
      ∀ base : Heap, (KK w.params).In base → base.Ns mainGlobals mg → GFn l.prog w (KK w.params) mg base (L2.CX l.prog w) k fa fd [x] (spOf (KK w.params) mg 1 sp))
    (hsp : ∀ ns : List Int, ns.length ≤ n → sp [.d (.list (ns.map PyData.int))] [] (fun v _ => v = .d (.bool true)) fun _ _ => False) :
    PySem.W.WalkO q loose XP YP l.row.toRowW d [] (fun f vs => PySem.call f vs) := by
  refine Att.attach_call hn hdf fun w s₀ s₁ mg mb fa o pm cd doc a vs ns G Y ho hd hcd hmg hobj hints hlen hg => ?_
  obtain ⟨fd, hb, hF⟩ := F w mg fa _ (hY w _ Y) G.T.g hmg
  exact law_at (hY w _ Y) G.T.g G.T.b G.T.builtins G.T.nolimit hg hobj hints (Nat.le_trans hlen hn2) hr hF hb (hsp ns hlen)
end
end Mini

/-! Mini, part J: defs put together. -/
namespace Mini
open PySem PySem.Spec PyProof.Rows L2

def Has (P : Program) (wd : World) (K : PySem.W.Frag) (mg : Str → Option Value) (base : Heap) (k : Nat) (nm : Str) (n : Nat) (sp : Spec) : Prop :=
  ∃ f fd ps, GFn P wd K mg base (L2.CX P wd) k f fd ps (spOf K mg n sp) ∧ mg nm = some (.ref f) ∧ PySem.W.keepIn K (.ref f) = true ∧ Binds K fd ps []
section
variable {P : Program} {wd : World} {K : PySem.W.Frag} {mg : Str → Option Value} {base : Heap}
theorem Has.mono {j k : Nat} {nm : Str} {n : Nat} {sp : Spec} (h : Has P wd K mg base j nm n sp) (hk : j ≤ k) : Has P wd K mg base k nm n sp := by
  obtain ⟨f, fd, ps, h1, h2⟩ := h
  exact ⟨f, fd, ps, h1.mono hk, h2⟩
inductive FnsOk (P : Program) (wd : World) (K : PySem.W.Frag) (mg : Str → Option Value) (base : Heap) (k : Nat) : List (Str × Nat × Spec) → Prop
  | nil : FnsOk P wd K mg base k []
  | cons {j : Nat} {nm : Str} {n : Nat} {sp : Spec} {r : List (Str × Nat × Spec)} : Has P wd K mg base j nm n sp → j ≤ k → FnsOk P wd K mg base k r → FnsOk P wd K mg base k ((nm, n, sp) :: r)
theorem FnsOk.get {k : Nat} : ∀ {l : List (Str × Nat × Spec)}, FnsOk P wd K mg base k l → ∀ (i : Nat) (q : Str × Nat × Spec), l[i]? = some q → Has P wd K mg base k q.1 q.2.1 q.2.2
  | _, .nil, i, q, h => by simp at h
  | _, .cons h hk t, 0, q, e => by
    simp at e
    subst e
    exact h.mono hk
  | _, .cons h hk t, i + 1, q, e => FnsOk.get t i q (by simpa using e)
abbrev fragOf {K : PySem.W.Frag} {h : Heap} (_ : K.In h) : PySem.W.Frag := K
/-- where a def stands -/
structure FunAt (K : PySem.W.Frag) (mg : Str → Option Value) (nm : Str) (st : Stmt) (ps : List Str) : Prop where
  ex : ∃ f fd, Fun K nm nm st f fd ∧ mg nm = some (.ref f) ∧ Binds K fd ps []
theorem funAt {nm : Str} {st : Stmt} {ps : List Str} {h : Heap} {f : Addr} {oc : Value} {od an : Option Addr} {osl : Array (Option Value)} {kV doc pm cdv ct : Value} (X : K.In h) (G : h.Ns mainGlobals mg) (a : PySem.W.nsIn K mainGlobals nm = some (some (.ref f)))
    (l : K.lookup f = some ⟨oc, od, .func (PySem.W.fnOf nm nm (defArgs st) (defBody st) (defScope st) .none kV doc pm an cdv ct), osl⟩) (c : PySem.W.codeIn K cdv nm = true) (k : PySem.W.keepIn K (.ref f) = true)
    (hb : ∀ (kV doc pm : Value) (an : Option Addr) (cdv ct : Value) (us : List Value), us.length = ps.length → bindArgs (PySem.W.fnOf nm nm (defArgs st) (defBody st) (defScope st) .none kV doc pm an cdv ct) ⟨us, []⟩ = pure (ps.zip us)) : FunAt K mg nm st ps :=
  have F := fun_mk (st := st) l c k
  ⟨f, _, F, PySem.W.mg_of X G a, F.binds hb⟩
theorem has_def {nm : Str} {st : Stmt} {N ps : List Str} {k : Nat} {T : Tab} {sp : Spec} {d : Def} (A : FunAt K mg nm st ps) (S : FnScope N ps (defScope st)) (hbl : ∀ x ∈ T.blts, mg x = none) (hgl : ∀ q ∈ T.glbs, ∃ u, mg q.1 = some u ∧ RelV (toV q.2) u) (hf : FnsOk P wd K mg base k T.fns)
    (hnp : d.np = ps.length) (hns : d.ns = N.length) (hm : mB T N (defScope st) d.body (defBody st) = true) (hs : ∀ es s Q X, es.length = d.np → sp es s Q X → denF T d es s Q X) : Has P wd K mg base (k + 1) nm ps.length sp := by
  obtain ⟨f, fd, F, hmg, hb⟩ := A.ex
  exact ⟨f, fd, ps, def_ok F S ⟨hbl, hgl, hf.get⟩ d hnp hns hm hs, hmg, F.kp, hb⟩
/-- the law's own def -/
theorem law_def {nm : Str} {st : Stmt} {N : List Str} {x : Str} {k : Nat} {T : Tab} {sp : Spec} {d : Def} {h : Heap} {fa f : Addr} {oc : Value} {od an : Option Addr} {osl : Array (Option Value)} {kV doc pm cdv ct : Value} (X : K.In h) (G : h.Ns mainGlobals mg) (hfa : mg nm = some (.ref fa))
    (a : PySem.W.nsIn K mainGlobals nm = some (some (.ref f))) (l : K.lookup f = some ⟨oc, od, .func (PySem.W.fnOf nm nm (defArgs st) (defBody st) (defScope st) .none kV doc pm an cdv ct), osl⟩) (c : PySem.W.codeIn K cdv nm = true) (kp : PySem.W.keepIn K (.ref f) = true)
    (hb : ∀ (kV doc pm : Value) (an : Option Addr) (cdv ct : Value) (u : Value), bindArgs (PySem.W.fnOf nm nm (defArgs st) (defBody st) (defScope st) .none kV doc pm an cdv ct) ⟨[u], []⟩ = pure [(x, u)])
    (S : FnScope N [x] (defScope st)) (hbl : ∀ y ∈ T.blts, mg y = none) (hgl : ∀ q ∈ T.glbs, ∃ u, mg q.1 = some u ∧ RelV (toV q.2) u) (hf : ∀ base : Heap, FnsOk P wd K mg base k T.fns)
    (hnp : d.np = 1) (hns : d.ns = N.length) (hm : mB T N (defScope st) d.body (defBody st) = true) (hs : ∀ es s Q X, es.length = d.np → sp es s Q X → denF T d es s Q X) :
    ∃ fd : FuncData, (∀ (s : Shared) (u : Value), BindsTo s fd ⟨[u], []⟩ [(x, u)]) ∧ ∀ base : Heap, K.In base → base.Ns mainGlobals mg → GFn P wd K mg base (L2.CX P wd) (k + 1) fa fd [x] (spOf K mg 1 sp) := by
  have F := fun_mk (st := st) l c kp
  have e := hfa.symm.trans (PySem.W.mg_of X G a)
  cases e
  exact ⟨_, fun s u => .of_eq (hb _ _ _ _ _ _ _), fun base _ _ => def_ok F S ⟨hbl, hgl, (hf base).get⟩ d hnp hns hm hs⟩
end
end Mini

namespace Gen
open PySem PySem.Spec PyProof.Rows L2 Mini

/-! ### numbers: carryless words -/
def clm (a : Nat) (b : Nat) : Nat := if h : b = 0 then 0 else (if b % 2 = 1 then a else 0) ^^^ (2 * clm a (b / 2))
termination_by b
decreasing_by omega
theorem clm_zero (a : Nat) : clm a 0 = 0 := by rw [clm]; simp
theorem clm_step (a b : Nat) : clm a b = (if b % 2 = 1 then a else 0) ^^^ (2 * clm a (b / 2)) := by
  by_cases h : b = 0
  · subst h; simp [clm_zero]
  · rw [clm]; simp [h]
theorem xor_lt {a b n : Nat} (ha : a < 2 ^ n) (hb : b < 2 ^ n) : a ^^^ b < 2 ^ n := Nat.xor_lt_two_pow ha hb
theorem two_xor (a b : Nat) : 2 * (a ^^^ b) = (2 * a) ^^^ (2 * b) := by
  have e : ∀ x : Nat, 2 * x = x <<< 1 := fun x => by rw [Nat.shiftLeft_eq, Nat.mul_comm]
  rw [e, e, e, Nat.shiftLeft_xor_distrib]
theorem xor4 (a b c d : Nat) : (a ^^^ b) ^^^ (c ^^^ d) = (a ^^^ c) ^^^ (b ^^^ d) := by
  rw [Nat.xor_assoc, Nat.xor_assoc, ← Nat.xor_assoc b c d, Nat.xor_comm b c, Nat.xor_assoc c b d]
theorem clm_xor_left (a c : Nat) (b : Nat) : clm (a ^^^ c) b = clm a b ^^^ clm c b := by
  induction b using Nat.strongRecOn with
  | _ b ih =>
    by_cases h : b = 0
    · subst h; simp [clm_zero]
    · rw [clm_step (a ^^^ c), clm_step a, clm_step c, ih (b / 2) (by omega), two_xor, xor4]
      congr 1
      split <;> simp
theorem clm_two_left (a b : Nat) : clm (2 * a) b = 2 * clm a b := by
  induction b using Nat.strongRecOn with
  | _ b ih =>
    by_cases h : b = 0
    · subst h; simp [clm_zero]
    · rw [clm_step (2 * a), clm_step a, ih (b / 2) (by omega), two_xor]
      congr 1
      split <;> simp
theorem clm_one_left (b : Nat) : clm 1 b = b := by
  induction b using Nat.strongRecOn with
  | _ b ih =>
    by_cases h : b = 0
    · subst h; simp [clm_zero]
    · rw [clm_step, ih (b / 2) (by omega)]
      apply Nat.eq_of_testBit_eq; intro i
      cases i with
      | zero => by_cases hb : b % 2 = 1 <;> simp [Nat.testBit_zero, hb, Nat.mul_mod_right] <;> omega
      | succ i =>
        rw [Nat.testBit_xor]
        by_cases hb : b % 2 = 1 <;> simp [Nat.testBit_succ, hb, Nat.mul_div_right]
theorem clm_zero_left (b : Nat) : clm 0 b = 0 := by
  have := clm_two_left 0 b
  simp at this
  omega
theorem bit_split (b : Nat) : b = (if b % 2 = 1 then 1 else 0) ^^^ (2 * (b / 2)) := by
  conv => lhs; rw [← clm_one_left b, clm_step, clm_one_left]
theorem clm_comm (a b : Nat) : clm a b = clm b a := by
  induction b using Nat.strongRecOn with
  | _ b ih =>
    by_cases h : b = 0
    · subst h; simp [clm_zero, clm_zero_left]
    · rw [clm_step a b, ih (b / 2) (by omega)]
      conv => rhs; rw [bit_split b, clm_xor_left, clm_two_left]
      congr 1
      split
      · rw [clm_one_left]
      · rw [clm_zero_left]
theorem clm_xor_right (a b c : Nat) : clm a (b ^^^ c) = clm a b ^^^ clm a c := by
  rw [clm_comm a, clm_xor_left, clm_comm b, clm_comm c]
theorem clm_shl (a n : Nat) (b : Nat) : clm (a * 2 ^ n) b = clm a b * 2 ^ n := by
  induction n with
  | zero => simp
  | succ n ih => rw [show a * 2 ^ (n + 1) = 2 * (a * 2 ^ n) by rw [Nat.pow_succ]; ac_rfl, clm_two_left, ih, Nat.pow_succ]; ac_rfl
theorem clm_lt {a b m n : Nat} (ha : a < 2 ^ m) (hb : b < 2 ^ n) : clm a b < 2 ^ (m + n) := by
  induction n generalizing b with
  | zero =>
    have : b = 0 := by simpa using hb
    subst this; rw [clm_zero]; exact Nat.two_pow_pos _
  | succ n ih =>
    rw [clm_step]
    have h1 := ih (b := b / 2) (by rw [Nat.pow_succ] at hb; omega)
    refine xor_lt ?_ ?_
    · have : 2 ^ m ≤ 2 ^ (m + (n + 1)) := Nat.pow_le_pow_right (by omega) (by omega)
      split
      · omega
      · exact Nat.two_pow_pos _
    · rw [← Nat.add_assoc, Nat.pow_succ]; omega
/-- the bits of a word -/
def blen (a : Nat) : Nat := if a = 0 then 0 else a.log2 + 1
theorem blen_lt (a : Nat) : a < 2 ^ blen a := by
  unfold blen; split
  · subst a; simp
  · exact Nat.lt_log2_self
theorem blen_le {a n : Nat} (h : a < 2 ^ n) : blen a ≤ n := by
  unfold blen; split
  · omega
  · rename_i h0; exact (Nat.log2_lt h0).mpr h
theorem blen_le_iff {a n : Nat} : blen a ≤ n ↔ a < 2 ^ n := ⟨fun h => Nat.lt_of_lt_of_le (blen_lt a) (Nat.pow_le_pow_right (by omega) h), blen_le⟩
theorem blen_ge {a : Nat} (h : a ≠ 0) : 2 ^ (blen a - 1) ≤ a := by
  unfold blen; simp [h]; exact Nat.log2_self_le h
theorem blen_pos {a : Nat} (h : a ≠ 0) : 0 < blen a := by unfold blen; simp [h]
theorem blen_xor_le {a b n : Nat} (ha : blen a ≤ n) (hb : blen b ≤ n) : blen (a ^^^ b) ≤ n := blen_le (xor_lt (blen_le_iff.mp ha) (blen_le_iff.mp hb))
theorem blen_shl {a n : Nat} (h : a ≠ 0) : blen (a * 2 ^ n) = blen a + n := by
  apply Nat.le_antisymm
  · exact blen_le (by rw [Nat.pow_add]; exact Nat.mul_lt_mul_of_pos_right (blen_lt a) (Nat.two_pow_pos _))
  · have h1 := blen_ge h
    have h2 := blen_pos h
    have h3 : ¬ a * 2 ^ n < 2 ^ (blen a - 1 + n) := by
      rw [Nat.pow_add]; exact Nat.not_lt.mpr (Nat.mul_le_mul_right _ h1)
    rw [← blen_le_iff] at h3
    omega
theorem top_bit {a n : Nat} (h : blen a = n + 1) : a.testBit n = true := by
  have h0 : a ≠ 0 := by rintro rfl; simp [blen] at h
  have hb : blen a = a.log2 + 1 := by simp [blen, h0]
  have : n = a.log2 := by omega
  subst this
  rw [Nat.testBit_log2] <;> simp [h0]
/-- two words of one length: their sum is shorter -/
theorem blen_xor_lt {a b n : Nat} (ha : blen a = n + 1) (hb : blen b = n + 1) : blen (a ^^^ b) ≤ n := by
  apply blen_le
  apply Nat.lt_pow_two_of_testBit
  intro i hi
  rw [Nat.testBit_xor]
  by_cases h : i = n
  · subst h; rw [top_bit ha, top_bit hb]; rfl
  · have h1 : a < 2 ^ i := blen_le_iff.mp (by omega)
    have h2 : b < 2 ^ i := blen_le_iff.mp (by omega)
    rw [Nat.testBit_lt_two_pow h1, Nat.testBit_lt_two_pow h2]; rfl
/-- one step of a division without carrying -/
def cstep (r d : Nat) : Nat := r ^^^ (d * 2 ^ (blen r - blen d))
theorem cstep_lt {r d : Nat} (hd : d ≠ 0) (h : blen d ≤ blen r) : blen (cstep r d) < blen r := by
  have h2 := blen_pos hd
  have e : blen (d * 2 ^ (blen r - blen d)) = blen r := by rw [blen_shl hd]; omega
  obtain ⟨n, hn⟩ : ∃ n, blen r = n + 1 := ⟨blen r - 1, by omega⟩
  have := blen_xor_lt (n := n) hn (e.trans hn)
  unfold cstep
  omega
def cdv (d : Nat) (q r : Nat) : Nat × Nat := if h : d ≠ 0 ∧ blen d ≤ blen r then cdv d (q ||| 2 ^ (blen r - blen d)) (cstep r d) else (q, r)
termination_by blen r
decreasing_by exact cstep_lt h.1 h.2
theorem cdv_go {d q r : Nat} (hd : d ≠ 0) (h : blen d ≤ blen r) : cdv d q r = cdv d (q ||| 2 ^ (blen r - blen d)) (cstep r d) := by rw [cdv]; simp [hd, h]
theorem cdv_end {d q r : Nat} (h : ¬ blen d ≤ blen r) : cdv d q r = (q, r) := by rw [cdv]; simp [h]
theorem or_pow {q n : Nat} (h : 2 ^ (n + 1) ∣ q) : q ||| 2 ^ n = q ^^^ 2 ^ n := by
  apply Nat.eq_of_testBit_eq; intro i
  rw [Nat.testBit_or, Nat.testBit_xor, Nat.testBit_two_pow]
  by_cases hi : n = i
  · subst hi
    obtain ⟨k, rfl⟩ := h
    have : (2 ^ (n + 1) * k).testBit n = false := by
      rw [Nat.testBit_two_pow_mul]; simp; omega
    simp [this]
  · simp [hi]
theorem cdv_law (d : Nat) (hd : d ≠ 0) (n : Nat) : ∀ q r : Nat, blen r = n → (∃ m, blen r < blen d + m ∧ 2 ^ m ∣ q) → clm d (cdv d q r).1 ^^^ (cdv d q r).2 = clm d q ^^^ r ∧ blen (cdv d q r).2 < blen d ∧ (cdv d q r).1 < 2 ^ (max (blen q) (blen r)) := by
  induction n using Nat.strongRecOn with
  | _ n ih =>
    intro q r hr ⟨m, hm, hq⟩
    by_cases h : blen d ≤ blen r
    · have lt := cstep_lt hd h
      rw [cdv_go hd h]
      have hq' : 2 ^ (blen r - blen d + 1) ∣ q := Nat.dvd_trans (Nat.pow_dvd_pow 2 (by omega)) hq
      obtain ⟨h1, h2, h3⟩ := ih (blen (cstep r d)) (by omega) (q ||| 2 ^ (blen r - blen d)) (cstep r d) rfl ⟨blen r - blen d, by omega, by
        rw [or_pow hq']
        have : 2 ^ (blen r - blen d) ∣ q := Nat.dvd_trans (Nat.pow_dvd_pow 2 (by omega)) hq'
        obtain ⟨k, rfl⟩ := this
        refine ⟨k ^^^ 1, ?_⟩
        rw [Nat.mul_comm _ k, Nat.mul_comm _ (k ^^^ 1), ← Nat.shiftLeft_eq, ← Nat.shiftLeft_eq, Nat.shiftLeft_xor_distrib]
        simp [Nat.shiftLeft_eq]⟩
      refine ⟨h1.trans ?_, h2, Nat.lt_of_lt_of_le h3 (Nat.pow_le_pow_right (by omega) ?_)⟩
      · rw [or_pow hq', clm_xor_right, cstep, clm_comm d (2 ^ _), ← Nat.one_mul (2 ^ (blen r - blen d)), clm_shl, clm_one_left, Nat.one_mul, Nat.xor_assoc]
        congr 1
        rw [Nat.xor_comm r, ← Nat.xor_assoc, Nat.xor_self, Nat.zero_xor]
      · have h2' := blen_pos hd
        have : blen (q ||| 2 ^ (blen r - blen d)) ≤ max (blen q) (blen r) := blen_le (Nat.or_lt_two_pow (blen_le_iff.mp (Nat.le_max_left _ _)) (Nat.pow_lt_pow_right (by omega) (by omega)))
        omega
    · rw [cdv_end h]
      exact ⟨rfl, Nat.lt_of_not_le h, blen_le_iff.mp (Nat.le_max_left _ _)⟩

theorem cdv_snd (d : Nat) (n : Nat) : ∀ q q' r : Nat, blen r = n → (cdv d q r).2 = (cdv d q' r).2 := by
  induction n using Nat.strongRecOn with
  | _ n ih =>
    intro q q' r hr
    by_cases h : d ≠ 0 ∧ blen d ≤ blen r
    · rw [cdv_go h.1 h.2, cdv_go h.1 h.2]
      exact ih _ (by have := cstep_lt h.1 h.2; omega) _ _ _ rfl
    · rw [cdv, dif_neg h, cdv, dif_neg h]
end Gen

namespace Gen
open PySem PySem.Spec PyProof.Rows L2 Mini

/-! ### kinds, and specs of the shapes at hand -/
inductive Kd | h | b
def kS : Kd → Str
  | .h => "hours"
  | .b => "bits"
@[simp] theorem hours_bits : (("hours" : Str) = "bits") = False := by decide +kernel
@[simp] theorem bits_hours : (("bits" : Str) = "hours") = False := by decide +kernel
def nk : Kd → Int → Prop
  | .h, _ => True
  | .b, a => 0 ≤ a
theorem kS_inj {k k' : Kd} (h : kS k = kS k') : k = k' := by
  cases k <;> cases k' <;> simp [kS] at h <;> rfl
/-- kind, number, number -/
def spK2 (pre : Kd → Int → Int → Prop) (res : Kd → Int → Int → PyData) : Mini.Spec := fun es st Q _ => ∃ k a b, es = [.d (.str (kS k)), .d (.int a), .d (.int b)] ∧ pre k a b ∧ Q (.d (res k a b)) st
theorem spK2_at {pre res st Q X k a b} : spK2 pre res [.d (.str (kS k)), .d (.int a), .d (.int b)] st Q X ↔ pre k a b ∧ Q (.d (res k a b)) st := by
  constructor
  · rintro ⟨k', a', b', e, p, q⟩
    simp only [List.cons.injEq, EV.d.injEq, PyData.str.injEq, PyData.int.injEq, and_true] at e
    obtain ⟨e1, rfl, rfl⟩ := e
    cases kS_inj e1
    exact ⟨p, q⟩
  · rintro ⟨p, q⟩
    exact ⟨k, a, b, rfl, p, q⟩
theorem spK2_h {pre res st Q X a b} : spK2 pre res [.d (.str "hours"), .d (.int a), .d (.int b)] st Q X ↔ pre .h a b ∧ Q (.d (res .h a b)) st := spK2_at (k := .h)
theorem spK2_b {pre res st Q X a b} : spK2 pre res [.d (.str "bits"), .d (.int a), .d (.int b)] st Q X ↔ pre .b a b ∧ Q (.d (res .b a b)) st := spK2_at (k := .b)
/-- kind, number -/
def spK1 (pre : Kd → Int → Prop) (res : Kd → Int → PyData) : Mini.Spec := fun es st Q _ => ∃ k a, es = [.d (.str (kS k)), .d (.int a)] ∧ pre k a ∧ Q (.d (res k a)) st
theorem spK1_at {pre res st Q X k a} : spK1 pre res [.d (.str (kS k)), .d (.int a)] st Q X ↔ pre k a ∧ Q (.d (res k a)) st := by
  constructor
  · rintro ⟨k', a', e, p, q⟩
    simp only [List.cons.injEq, EV.d.injEq, PyData.str.injEq, PyData.int.injEq, and_true] at e
    obtain ⟨e1, rfl⟩ := e
    cases kS_inj e1
    exact ⟨p, q⟩
  · rintro ⟨p, q⟩
    exact ⟨k, a, rfl, p, q⟩
theorem spK1_h {pre res st Q X a} : spK1 pre res [.d (.str "hours"), .d (.int a)] st Q X ↔ pre .h a ∧ Q (.d (res .h a)) st := spK1_at (k := .h)
theorem spK1_b {pre res st Q X a} : spK1 pre res [.d (.str "bits"), .d (.int a)] st Q X ↔ pre .b a ∧ Q (.d (res .b a)) st := spK1_at (k := .b)
/-- kind -/
def spK0 (res : Kd → PyData) : Mini.Spec := fun es st Q _ => ∃ k, es = [.d (.str (kS k))] ∧ Q (.d (res k)) st
theorem spK0_at {res st Q X k} : spK0 res [.d (.str (kS k))] st Q X ↔ Q (.d (res k)) st := by
  constructor
  · rintro ⟨k', e, q⟩
    simp only [List.cons.injEq, EV.d.injEq, PyData.str.injEq, and_true] at e
    cases kS_inj e
    exact q
  · intro q
    exact ⟨k, rfl, q⟩
theorem spK0_h {res st Q X} : spK0 res [.d (.str "hours")] st Q X ↔ Q (.d (res .h)) st := spK0_at (k := .h)
theorem spK0_b {res st Q X} : spK0 res [.d (.str "bits")] st Q X ↔ Q (.d (res .b)) st := spK0_at (k := .b)
/-- data -/
def sp1 (pre : PyData → Prop) (res : PyData → PyData) : Mini.Spec := fun es st Q _ => ∃ x, es = [.d x] ∧ pre x ∧ Q (.d (res x)) st
theorem sp1_at {pre res st Q X x} : sp1 pre res [.d x] st Q X ↔ pre x ∧ Q (.d (res x)) st := by
  constructor
  · rintro ⟨y, e, p, q⟩
    cases e
    exact ⟨p, q⟩
  · rintro ⟨p, q⟩
    exact ⟨x, rfl, p, q⟩
def sp2 (pre : PyData → PyData → Prop) (res : PyData → PyData → PyData) : Mini.Spec := fun es st Q _ => ∃ x y, es = [.d x, .d y] ∧ pre x y ∧ Q (.d (res x y)) st
theorem sp2_at {pre res st Q X x y} : sp2 pre res [.d x, .d y] st Q X ↔ pre x y ∧ Q (.d (res x y)) st := by
  constructor
  · rintro ⟨_, _, e, p, q⟩
    cases e
    exact ⟨p, q⟩
  · rintro ⟨p, q⟩
    exact ⟨x, y, rfl, p, q⟩
def sp3 (pre : PyData → PyData → PyData → Prop) (res : PyData → PyData → PyData → PyData) : Mini.Spec := fun es st Q _ => ∃ x y z, es = [.d x, .d y, .d z] ∧ pre x y z ∧ Q (.d (res x y z)) st
theorem sp3_at {pre res st Q X x y z} : sp3 pre res [.d x, .d y, .d z] st Q X ↔ pre x y z ∧ Q (.d (res x y z)) st := by
  constructor
  · rintro ⟨_, _, _, e, p, q⟩
    cases e
    exact ⟨p, q⟩
  · rintro ⟨p, q⟩
    exact ⟨x, y, z, rfl, p, q⟩

/-! ### words of unfolding -/
theorem ex_eq_some {α : Type} {b : α} {p : α → Prop} : (∃ a, some b = some a ∧ p a) ↔ p b := ⟨fun ⟨a, h, q⟩ => by cases h; exact q, fun q => ⟨b, rfl, q⟩⟩
theorem ex_none {α : Type} {p : α → Prop} : (∃ a, (none : Option α) = some a ∧ p a) ↔ False := ⟨fun ⟨a, h, q⟩ => (nomatch h), False.elim⟩
theorem ex_eqd {b : PyData} {p : PyData → Prop} : (∃ a, EV.d b = EV.d a ∧ p a) ↔ p b := ⟨fun ⟨a, h, q⟩ => by cases h; exact q, fun q => ⟨b, rfl, q⟩⟩
theorem ex_eqi {b : Int} {p : Int → Prop} : (∃ a, EV.d (.int b) = EV.d (.int a) ∧ p a) ↔ p b := ⟨fun ⟨a, h, q⟩ => by cases h; exact q, fun q => ⟨b, rfl, q⟩⟩
theorem ex_call {a : Str} {b : Nat} {c : Mini.Spec} {p : Str → Nat → Mini.Spec → Prop} : (∃ nm n sp, some (a, b, c) = some (nm, n, sp) ∧ p nm n sp) ↔ p a b c := ⟨fun ⟨_, _, _, h, q⟩ => by cases h; exact q, fun q => ⟨a, b, c, rfl, q⟩⟩
theorem ex_data {x : PyData} {c : EV} {p : EV → Prop} : (∃ v, some (some c) = some (some v) ∧ p v) ↔ p c := ⟨fun ⟨_, h, q⟩ => by cases h; exact q, fun q => ⟨c, rfl, q⟩⟩
theorem ex_look2 {x y : PyData} {f : PyData → PyData → Option PyData} {s1 s2 : ST} {p : PyData → Prop} : (∃ a b r, look s1 (.d x) = some a ∧ look s2 (.d y) = some b ∧ f a b = some r ∧ p r) ↔ ∃ r, f x y = some r ∧ p r :=
  ⟨fun ⟨_, _, r, h1, h2, h3, q⟩ => by cases h1; cases h2; exact ⟨r, h3, q⟩, fun ⟨r, h, q⟩ => ⟨x, y, r, rfl, rfl, h, q⟩⟩
theorem ex_look1 {x : PyData} {f : PyData → Option PyData} {s1 : ST} {p : PyData → Prop} : (∃ a r, look s1 (.d x) = some a ∧ f a = some r ∧ p r) ↔ ∃ r, f x = some r ∧ p r :=
  ⟨fun ⟨_, r, h1, h3, q⟩ => by cases h1; exact ⟨r, h3, q⟩, fun ⟨r, h, q⟩ => ⟨x, r, rfl, h, q⟩⟩
theorem ex_tru {x : PyData} {s1 : ST} {p : Bool → Prop} : (∃ a b, look s1 (.d x) = some a ∧ truF a = some b ∧ p b) ↔ ∃ b, truF x = some b ∧ p b :=
  ⟨fun ⟨_, r, h1, h3, q⟩ => by cases h1; exact ⟨r, h3, q⟩, fun ⟨r, h, q⟩ => ⟨x, r, rfl, h, q⟩⟩
theorem kS_h : kS .h = "hours" := rfl
theorem kS_b : kS .b = "bits" := rfl
theorem l2 : (2 ≤ line) = True := by simp [line]
theorem ex_looks {vs : List EV} {s : ST} {b : Blt} {ds : List PyData} {p : PyData → Prop} (h : looks s vs = some ds) : (∃ ds' r, looks s vs = some ds' ∧ bltF b ds' = some r ∧ p r) ↔ ∃ r, bltF b ds = some r ∧ p r :=
  ⟨fun ⟨_, r, h1, h3, q⟩ => by rw [h] at h1; cases h1; exact ⟨r, h3, q⟩, fun ⟨r, h1, q⟩ => ⟨ds, r, h, h1, q⟩⟩
theorem some_if {α : Type} {c : Prop} [Decidable c] {x : α} {p : α → Prop} : (∃ r, (if c then some x else none) = some r ∧ p r) ↔ c ∧ p x := by
  by_cases h : c
  · simp only [h, if_true, true_and]; exact ex_eq_some
  · simp only [h, if_false, false_and]; exact ex_none
@[simp] theorem fin_d {n : Nat} {Q : QE} {x : PyData} {s : ST} : fin 0 n Q (.d x) s ↔ Q (.d x) (s.take n) := Iff.rfl
@[simp] theorem fin_t {n : Nat} {Q : QE} {v : EV} {s : ST} : fin 1 n Q v s ↔ Q v s := Iff.rfl
theorem shp_int (a : Int) : SeqAt.shaped (.int a) = true := by simp [SeqAt.shaped, PyData.canLay0, PyData.depth]
theorem shp_str (a : Str) (h : PyData.strOk a = true) : SeqAt.shaped (.str a) = true := by simp [SeqAt.shaped, PyData.canLay0, PyData.depth, h]
theorem shp_bool (a : Bool) : SeqAt.shaped (.bool a) = true := by simp [SeqAt.shaped, PyData.canLay0, PyData.depth]
theorem shp_none : SeqAt.shaped .none = true := by simp [SeqAt.shaped, PyData.canLay0, PyData.depth]
theorem eqv_int (a b : Int) : PyData.eqv (.int a) (.int b) = decide (a = b) := by rw [PyData.eqv]; rfl
end Gen

namespace Gen
open PySem PySem.Spec PyProof.Rows L2 Mini

/-! ### what the program's defs compute -/
def sx (a b : Int) : Int := ((a.toNat ^^^ b.toNat : Nat) : Int)
def kAdd : Kd → Int → Int → Int
  | .h, a, b => a + b
  | .b, a, b => sx a b
def kLess : Kd → Int → Int → Int
  | .h, a, b => a - b
  | .b, a, b => sx a b
def kTimes : Kd → Int → Int → Int
  | .h, a, b => a * b
  | .b, a, b => ((clm a.toNat b.toNat : Nat) : Int)
def kQuo : Kd → Int → Int → Int
  | .h, a, b => a / b
  | .b, a, b => (((cdv b.toNat 0 a.toNat).1 : Nat) : Int)
def kMod : Kd → Int → Int → Int
  | .h, a, b => a % b
  | .b, a, b => (((cdv b.toNat 0 a.toNat).2 : Nat) : Int)
def kRest (k : Kd) (a b : Int) : Int := if b = 0 then a else kMod k a b
/-- short numbers -/
def sh (a : Int) : Prop := a.natAbs < 2 ^ 1000
def spI1 (pre : Int → Prop) (res : Int → PyData) : Mini.Spec := fun es st Q _ => ∃ a, es = [.d (.int a)] ∧ pre a ∧ Q (.d (res a)) st
theorem spI1_at {pre res st Q X a} : spI1 pre res [.d (.int a)] st Q X ↔ pre a ∧ Q (.d (res a)) st := by
  constructor
  · rintro ⟨y, e, p, q⟩
    cases e
    exact ⟨p, q⟩
  · rintro ⟨p, q⟩
    exact ⟨a, rfl, p, q⟩
/-- any one value -/
def spD (res : PyData → PyData) : Mini.Spec := fun es st Q _ => ∃ v, es = [.d v] ∧ Q (.d (res v)) st
theorem spD_at {res st Q X v} : spD res [.d v] st Q X ↔ Q (.d (res v)) st := by
  constructor
  · rintro ⟨y, e, q⟩
    cases e
    exact q
  · intro q
    exact ⟨v, rfl, q⟩
/-- a kind and any one value -/
def spKD (res : Kd → PyData → PyData) : Mini.Spec := fun es st Q _ => ∃ k v, es = [.d (.str (kS k)), .d v] ∧ Q (.d (res k v)) st
theorem spKD_at {res st Q X k v} : spKD res [.d (.str (kS k)), .d v] st Q X ↔ Q (.d (res k v)) st := by
  constructor
  · rintro ⟨k', y, e, q⟩
    simp only [List.cons.injEq, EV.d.injEq, PyData.str.injEq, and_true] at e
    obtain ⟨e1, rfl⟩ := e
    cases kS_inj e1
    exact q
  · intro q
    exact ⟨k, v, rfl, q⟩
theorem spKD_h {res st Q X v} : spKD res [.d (.str "hours"), .d v] st Q X ↔ Q (.d (res .h v)) st := spKD_at (k := .h)
theorem spKD_b {res st Q X v} : spKD res [.d (.str "bits"), .d v] st Q X ↔ Q (.d (res .b v)) st := spKD_at (k := .b)
def isW : PyData → Bool
  | .int _ => true
  | _ => false
def isC : PyData → Bool
  | .int a => decide (0 ≤ a)
  | _ => false
def isN (k : Kd) : PyData → Bool
  | .int a => match k with | .h => true | .b => decide (0 ≤ a)
  | _ => false
theorem isW_int {a : Int} : isW (.int a) = true := rfl
theorem isC_int {a : Int} : isC (.int a) = decide (0 ≤ a) := rfl
theorem isN_int {k : Kd} {a : Int} : isN k (.int a) = match k with | .h => true | .b => decide (0 ≤ a) := rfl
theorem isN_h {v : PyData} : isN .h v = isW v := by cases v <;> rfl
theorem isN_b {v : PyData} : isN .b v = isC v := by cases v <;> rfl
def sp_is_kind : Mini.Spec := spK0 fun _ => .bool true
def sp_check_kind : Mini.Spec := spK0 fun _ => .none
def sp_is_whole : Mini.Spec := spD fun v => .bool (isW v)
def sp_is_count : Mini.Spec := spD fun v => .bool (isC v)
def sp_is_number_of : Mini.Spec := spKD fun k v => .bool (isN k v)
def sp_check_of : Mini.Spec := spK1 nk fun _ _ => .none
def sp_check_pair : Mini.Spec := spK2 (fun k a b => nk k a ∧ nk k b) fun _ _ _ => .none
def sp_add_in : Mini.Spec := spK2 (fun k a b => nk k a ∧ nk k b) fun k a b => .int (kAdd k a b)
def sp_added : Mini.Spec := sp_add_in
def sp_less_in : Mini.Spec := spK2 (fun k a b => nk k a ∧ nk k b) fun k a b => .int (kLess k a b)
def sp_less : Mini.Spec := sp_less_in
def sp_times_in : Mini.Spec := spK2 (fun k a b => (nk k a ∧ nk k b) ∧ sh a ∧ sh b) fun k a b => .int (kTimes k a b)
def sp_product : Mini.Spec := sp_times_in
def sp_check_number : Mini.Spec := fun es st Q _ => ∃ (a : Int) (lo hi : PyData), es = [.d (.int a), .d lo, .d hi] ∧ (lo = .none ∨ ∃ l, lo = .int l ∧ l ≤ a) ∧ (hi = .none ∨ ∃ l, hi = .int l ∧ a ≤ l) ∧ Q (.d .none) st
theorem sp_check_number_at {st Q X} {a lo : Int} : sp_check_number [.d (.int a), .d (.int lo), .d .none] st Q X ↔ lo ≤ a ∧ Q (.d .none) st := by
  constructor
  · rintro ⟨_, _, _, e, p, _, q⟩
    cases e
    rcases p with p | ⟨l, e, p⟩
    · cases p
    · cases e
      exact ⟨p, q⟩
  · rintro ⟨p, q⟩
    exact ⟨a, _, _, rfl, .inr ⟨lo, rfl, p⟩, .inl rfl, q⟩
theorem sp_check_number_nn {st Q X} {a : Int} : sp_check_number [.d (.int a), .d .none, .d .none] st Q X ↔ Q (.d .none) st := by
  constructor
  · rintro ⟨_, _, _, e, p, _, q⟩
    exact q
  · intro q
    exact ⟨a, _, _, rfl, .inl rfl, .inl rfl, q⟩
def sp_divided_in : Mini.Spec := spK2 (fun k a b => nk k a ∧ 1 ≤ b ∧ sh a ∧ sh b) fun k a b => .tuple [.int (kQuo k a b), .int (kMod k a b)]
def sp_quotient : Mini.Spec := spK2 (fun k a b => nk k a ∧ 1 ≤ b ∧ sh a ∧ sh b) fun k a b => .int (kQuo k a b)
def sp_rest_in : Mini.Spec := spK2 (fun k a b => nk k a ∧ 0 ≤ b ∧ sh a ∧ sh b) fun k a b => .int (kRest k a b)
def sp_rest : Mini.Spec := sp_rest_in
def sp_is_multiple_in : Mini.Spec := spK2 (fun k a b => nk k a ∧ 0 ≤ b ∧ sh a ∧ sh b) fun k a b => .bool (decide (kRest k a b = 0))
def sp_is_multiple : Mini.Spec := spK2 (fun k a b => nk k a ∧ nk k b ∧ sh a ∧ sh b) fun k a b => .bool (decide (kRest k a b.natAbs = 0))
def sp__law_add : Mini.Spec := sp_add_in
def sp__law_less : Mini.Spec := sp_less_in
def sp__law_times : Mini.Spec := sp_times_in
def sp__law_rest : Mini.Spec := sp_rest_in
def sp__law_is_multiple : Mini.Spec := sp_is_multiple_in

/-- the generator's cell -/
def gst (a s c : Int) : List PyData := [.int a, .int s, .int c]
def gok (s c : Int) : Prop := (0 ≤ s ∧ s < 2 ^ 31) ∧ 0 ≤ c ∧ c < 2 ^ 40
def sp__law_cell : Mini.Spec := fun es st Q _ => ∃ (ns : List Int) (i : Int), es = [.d (.list (ns.map .int)), .d (.int i)] ∧ 0 ≤ i ∧ ∀ x : Int, Q (.d (.int x)) st
def sp__law_generator : Mini.Spec := fun es st Q _ => ∃ (ns : List Int) (i : Int), es = [.d (.list (ns.map .int)), .d (.int i)] ∧ (0 ≤ i ∧ i ≤ 1000) ∧ ∀ a s, 0 ≤ s → s < 2 ^ 31 → Q (.cell st.length) (st ++ [gst a s (1000 * i)])
def sp__law_hash : Mini.Spec := fun es st Q _ => ∃ s c : Int, es = [.d (.int s), .d (.int c)] ∧ ((0 ≤ s ∧ s < 2 ^ 31) ∧ 0 ≤ c ∧ c < 2 ^ 41) ∧ ∀ r : Int, 0 ≤ r → r < 2 ^ 31 → Q (.d (.int r)) st
/-- a draw: the cell n holds a generator, and R tells what may come -/
def drw (n : Nat) (st : ST) (Q : QE) (m : Int) (R : Int → Prop) : Prop := ∃ a s c, st[n]? = some (gst a s c) ∧ gok s c ∧ ∀ r a' c' : Int, R r → c ≤ c' → c' ≤ c + m → Q (.d (.int r)) (st.set n (gst a' s c'))
def sp__law_random : Mini.Spec := fun es st Q _ => ∃ n b, es = [.cell n, .d (.int b)] ∧ (0 < b ∧ sh b) ∧ drw n st Q 50 fun r => 0 ≤ r ∧ r < b
def numR (k : Kd) (most : Int) (r : Int) : Prop := match k with
  | .h => -most ≤ r ∧ r ≤ most
  | .b => 0 ≤ r ∧ r < most
def sp__law_number : Mini.Spec := fun es st Q _ => ∃ n k most, es = [.cell n, .d (.str (kS k)), .d (.int most)] ∧ (0 < most ∧ most < 2 ^ 900) ∧ drw n st Q 50 (numR k most)
end Gen

namespace Gen
open PySem PySem.Spec PyProof.Rows L2 Mini
section
variable {a b : Int} {x y : PyData} {s t : Str} {p q : Bool} {xs ys : List PyData}
theorem tru_none : truF .none = some false := rfl
theorem tru_bool : truF (.bool p) = some p := rfl
theorem tru_int : truF (.int a) = some (a != 0) := rfl
theorem tru_list : truF (.list xs) = some (!xs.isEmpty) := rfl
theorem cmp_eq_int : cmpF .Eq (.int a) (.int b) = some (decide (a = b)) := by simp [cmpF, shp_int, eqv_int]
theorem cmp_ne_int : cmpF .NotEq (.int a) (.int b) = some (decide (a ≠ b)) := by simp [cmpF, shp_int, eqv_int]
theorem cmp_lt : cmpF .Lt (.int a) (.int b) = some (decide (a < b)) := rfl
theorem cmp_le : cmpF .LtE (.int a) (.int b) = some (decide (a ≤ b)) := rfl
theorem cmp_gt : cmpF .Gt (.int a) (.int b) = some (decide (b < a)) := rfl
theorem cmp_ge : cmpF .GtE (.int a) (.int b) = some (decide (b ≤ a)) := rfl
theorem eqv_str : PyData.eqv (.str s) (.str t) = decide (s = t) := by rw [PyData.eqv]; rfl
theorem cmp_eq_str : cmpF .Eq (.str s) (.str t) = some (decide (s = t)) := by simp [cmpF, strsP, eqv_str]
theorem cmp_ne_str : cmpF .NotEq (.str s) (.str t) = some (decide (s ≠ t)) := by simp [cmpF, strsP, eqv_str]
theorem op_add : opF .Add (.int a) (.int b) = some (.int (a + b)) := rfl
theorem op_sub : opF .Sub (.int a) (.int b) = some (.int (a - b)) := rfl
theorem op_mul : opF .Mult (.int a) (.int b) = if (Builtin.Int.intBits a : Int) + (Builtin.Int.intBits b : Int) ≤ 134217728 then some (.int (a * b)) else none := rfl
theorem op_fdv : opF .FloorDiv (.int a) (.int b) = if 0 < b ∧ b.natAbs.log2 < 9000 then some (.int (a / b)) else none := rfl
theorem op_mod : opF .Mod (.int a) (.int b) = if 0 < b then some (.int (a % b)) else none := rfl
theorem op_pow : opF .Pow (.int a) (.int b) = if 0 ≤ b ∧ (Builtin.Int.intBits a : Int) * b ≤ 2 ^ 27 then some (.int (a ^ b.toNat)) else none := rfl
theorem op_shl : opF .LShift (.int a) (.int b) = if 0 ≤ b ∧ (Builtin.Int.intBits a : Int) + b ≤ 2 ^ 27 then some (.int (a * 2 ^ b.toNat)) else none := rfl
theorem op_shr : opF .RShift (.int a) (.int b) = if 0 ≤ b then some (.int (a / 2 ^ b.toNat)) else none := rfl
theorem op_and : opF .BitAnd (.int a) (.int b) = some (.int (Builtin.bitAnd a b)) := rfl
theorem op_or : opF .BitOr (.int a) (.int b) = some (.int (Builtin.bitOr a b)) := rfl
theorem op_xor : opF .BitXor (.int a) (.int b) = some (.int (Builtin.bitXor a b)) := rfl
theorem op_cat : opF .Add (.list xs) (.list ys) = if xs.length + ys.length ≤ line then some (.list (xs ++ ys)) else none := rfl
theorem un_neg : unF .USub (.int a) = some (.int (-a)) := rfl
theorem is_none : isF x .none = some (isNoneP x) := by cases x <;> rfl
theorem in_none : isNoneP .none = true := rfl
theorem in_int : isNoneP (.int a) = false := rfl
theorem in_str : isNoneP (.str s) = false := rfl
theorem in_list : isNoneP (.list xs) = false := rfl
theorem blt_len : bltF .len [.list xs] = some (.int xs.length) := rfl
theorem blt_int : bltF .int [.int a] = some (.int a) := rfl
theorem blt_abs : bltF .abs [.int a] = some (.int (if a < 0 then -a else a)) := rfl
theorem blt_max : bltF .max [.int a, .int b] = some (.int (if b > a then b else a)) := rfl
theorem blt_min : bltF .min [.int a, .int b] = some (.int (if b < a then b else a)) := rfl
theorem blt_repr : bltF .repr [x] = if PyData.showable x = true ∧ SeqAt.shaped x = true ∧ (PyData.shown x).length ≤ line then some (.str (PyData.shown x)) else none := by cases x <;> rfl
theorem blt_sum : bltF .sum [.list xs] = (intsF xs).map fun l => .int l.sum := rfl
theorem isi_int_int : isiF (.int a) "int" = some true := (by decide : kitB "int" "int" = some true)
theorem isi_int_bool : isiF (.int a) "bool" = some false := (by decide : kitB "int" "bool" = some false)
theorem isi_int_str : isiF (.int a) "str" = some false := (by decide : kitB "int" "str" = some false)
theorem isi_str_str : isiF (.str s) "str" = some true := (by decide : kitB "str" "str" = some true)
theorem isi_str_int : isiF (.str s) "int" = some false := (by decide : kitB "str" "int" = some false)
theorem isi_str_bool : isiF (.str s) "bool" = some false := (by decide : kitB "str" "bool" = some false)
theorem isi_bool_bool : isiF (.bool p) "bool" = some true := (by decide : kitB "bool" "bool" = some true)
theorem isi_bool_int : isiF (.bool p) "int" = some true := (by decide : kitB "bool" "int" = some true)
theorem isi_none_int : isiF .none "int" = some false := (by decide : kitB "NoneType" "int" = some false)
theorem isi_none_str : isiF .none "str" = some false := (by decide : kitB "NoneType" "str" = some false)
theorem isi_list_list : isiF (.list xs) "list" = some true := (by decide : kitB "list" "list" = some true)
theorem isi_list_int : isiF (.list xs) "int" = some false := (by decide : kitB "list" "int" = some false)
theorem isi_tup_int : isiF (.tuple xs) "int" = some false := (by decide : kitB "tuple" "int" = some false)
theorem isi_dict_int {ps : List (PyData × PyData)} : isiF (.dict ps) "int" = some false := (by decide : kitB "dict" "int" = some false)
theorem isi_list_str : isiF (.list xs) "str" = some false := (by decide : kitB "list" "str" = some false)
theorem idx_list : idxF (.list xs) (.int a) = atI xs a := rfl
theorem idx_tuple : idxF (.tuple xs) (.int a) = atI xs a := rfl
theorem some_map {α β : Type} {o : Option α} {f : α → β} {p : β → Prop} : (∃ r, o.map f = some r ∧ p r) ↔ ∃ r, o = some r ∧ p (f r) := by
  constructor
  · rintro ⟨r, e, h⟩
    obtain ⟨r', e', rfl⟩ := Option.map_eq_some_iff.mp e
    exact ⟨r', e', h⟩
  · rintro ⟨r, rfl, h⟩
    exact ⟨_, rfl, h⟩
theorem ex_cond {p : Prop} [Decidable p] {A B : Prop} : (if decide p = true then A else B) ↔ if p then A else B := by simp
theorem map_some {α β : Type} {f : α → β} {z : α} : (some z).map f = some (f z) := rfl
theorem ex_cell {st : ST} {n : Nat} {l : List PyData} {f : PyData → PyData → Option PyData} {v : PyData} {s2 : ST} {P : PyData → Prop} (h : st[n]? = some l) : (∃ a b r, look st (.cell n) = some a ∧ look s2 (.d v) = some b ∧ f a b = some r ∧ P r) ↔ ∃ r, f (.list l) v = some r ∧ P r := by
  constructor
  · rintro ⟨_, _, r, h1, h2, h3, q⟩
    simp only [look, h, Option.map_some, Option.some.injEq] at h1 h2
    subst h1; subst h2
    exact ⟨r, h3, q⟩
  · rintro ⟨r, h1, q⟩
    exact ⟨_, _, r, by simp [look, h], rfl, h1, q⟩
theorem ex_ss {c : EV} {P : EV → Prop} : (∃ v, some (some c) = some (some v) ∧ P v) ↔ P c := ⟨fun ⟨_, h, q⟩ => by cases h; exact q, fun q => ⟨c, rfl, q⟩⟩
theorem ex_di {i : Int} {P : Int → Prop} : (∃ j, EV.d (.int i) = .d (.int j) ∧ P j) ↔ P i := ⟨fun ⟨_, h, q⟩ => by cases h; exact q, fun q => ⟨i, rfl, q⟩⟩
theorem looks_nil {st : ST} : looks st [] = some [] := rfl
theorem looks_d {st : ST} {z : PyData} {vs : List EV} : looks st (.d z :: vs) = (looks st vs).map (z :: ·) := rfl
theorem datas_nil : datas [] = some [] := rfl
theorem datas_d {z : PyData} {vs : List EV} : datas (.d z :: vs) = (datas vs).map (z :: ·) := rfl
theorem ex_some2 {α β : Type} {z : α} {g : α → Option β} {P : β → Prop} : (∃ ds r, some z = some ds ∧ g ds = some r ∧ P r) ↔ ∃ r, g z = some r ∧ P r :=
  ⟨fun ⟨_, r, h1, h3, q⟩ => by cases h1; exact ⟨r, h3, q⟩, fun ⟨r, h1, q⟩ => ⟨z, r, rfl, h1, q⟩⟩
theorem inL_flat {x : PyData} {ys : List PyData} (h1 : flatP x = true) (h2 : ys.all flatP = true) : inL x ys = some (inV (toV x) (ys.map toV)) := by
  unfold inL inF
  rw [if_pos ⟨h1, h2⟩, if_pos ⟨h1, h2⟩]
theorem in2 {u v : Str} : cmpF .In (.str s) (.list [.str u, .str v]) = some (decide (s = u) || decide (s = v)) := by
  show inL (.str s) [.str u, .str v] = _
  rw [inL_flat rfl rfl]
  congr 1
  rw [Bool.eq_iff_iff]
  simp [inV, eqV, toV, @eq_comm _ s u, @eq_comm _ s v]
end
end Gen

namespace Gen
open PySem PySem.Spec PyProof.Rows L2 Mini
/-- a for with something that holds between the turns -/
theorem forGo_ind {bind : PyData → Ev → Option Ev} {body : MS} {chk : ST → Prop} {k : KK} (J : Nat → Ev → ST → Prop) (items : List PyData)
    (hs : ∀ i x, items[i]? = some x → ∀ env st, J i env st → ∀ k' : KK, k'.rt = k.rt → k'.bk = k.nx → k'.ex = k.ex → (∀ e s, chk s → J (i + 1) e s → k'.nx e s) → (∀ e s, chk s → J (i + 1) e s → k'.ct e s) → ∃ e1, bind x env = some e1 ∧ body e1 st k')
    (he : ∀ env st, J items.length env st → k.nx env st) {env : Ev} {st : ST} (h0 : J 0 env st) : forGo bind body chk items env st k := by
  have key : ∀ (l : List PyData) (n : Nat), (∀ i x, l[i]? = some x → items[n + i]? = some x) → n + l.length = items.length → ∀ env st, J n env st → forGo bind body chk l env st k := by
    intro l
    induction l with
    | nil =>
      intro n _ hn env st h
      simp only [List.length_nil, Nat.add_zero] at hn
      subst hn
      exact he env st h
    | cons x xs ih =>
      intro n hi hn env st h
      have nx : ∀ e s, J (n + 1) e s → forGo bind body chk xs e s k := ih (n + 1) (fun i y hy => by
        have := hi (i + 1) y (by simpa using hy)
        rw [show n + 1 + i = n + (i + 1) by omega]
        exact this) (by simp at hn; omega)
      exact hs n x (by simpa using hi 0 x rfl) env st h _ rfl rfl rfl (fun e s c j => ⟨c, nx e s j⟩) (fun e s c j => ⟨c, nx e s j⟩)
  exact key items 0 (fun i x h => by simpa using h) (by simp) env st h0
/-- a while that a number bounds -/
theorem whlGo_ind {test : MT} {body : MS} {k : KK} (J : Nat → Ev → ST → Prop)
    (hs : ∀ m env st, J m env st → ∀ k' : KK, k'.rt = k.rt → k'.bk = k.nx → k'.ex = k.ex → (∀ e s m', m' < m → J m' e s → k'.nx e s) → (∀ e s m', m' < m → J m' e s → k'.ct e s) → test env st (fun b s => if b = true then body env s k' else k.nx env s) k.ex)
    (m : Nat) {env : Ev} {st : ST} (h0 : J m env st) : ∃ n, whlGo test body n env st k := by
  have key : ∀ (n m : Nat), m < n → ∀ env st, J m env st → whlGo test body n env st k := by
    intro n
    induction n with
    | zero => intro m h; omega
    | succ n ih =>
      intro m hm env st h
      exact hs m env st h _ rfl rfl rfl (fun e s m' l j => ih m' (by omega) e s j) (fun e s m' l j => ih m' (by omega) e s j)
  exact ⟨m + 1, key (m + 1) m (Nat.lt_succ_self m) env st h0⟩
theorem rngP_get {lo : Int} {n i : Nat} {x : PyData} (h : (rngP lo n)[i]? = some x) : x = .int (lo + i) ∧ i < n := by
  simp only [rngP, List.getElem?_map, Option.map_eq_some_iff] at h
  obtain ⟨a, h1, rfl⟩ := h
  rw [List.getElem?_eq_some_iff] at h1
  obtain ⟨h2, h3⟩ := h1
  simp at h2 h3
  subst h3
  exact ⟨rfl, h2⟩
theorem rngP_len {lo : Int} {n : Nat} : (rngP lo n).length = n := by simp [rngP]
theorem bits_nat (a : Int) (h : 0 ≤ a) : Builtin.Int.intBits a = blen a.toNat := by
  unfold Builtin.Int.intBits blen
  by_cases h0 : a = 0
  · subst h0; rfl
  · have : a.natAbs = a.toNat := by omega
    have h1 : a.toNat ≠ 0 := by omega
    simp [h0, h1, this]
theorem bits_le {a : Int} {n : Nat} (h : a.natAbs < 2 ^ n) : Builtin.Int.intBits a ≤ n := PyProof.Rows.intBits_le h
theorem bits_sh {a : Int} (h : sh a) : Builtin.Int.intBits a ≤ 1000 := bits_le h
theorem log_sh {a : Int} (h : sh a) : a.natAbs.log2 < 9000 := by
  unfold sh at h
  by_cases h0 : a.natAbs = 0
  · rw [h0]; decide
  · have := (Nat.log2_lt h0).mpr h
    omega
theorem mul_fit {a b : Int} (ha : sh a) (hb : sh b) : (Builtin.Int.intBits a : Int) + (Builtin.Int.intBits b : Int) ≤ 134217728 := by
  have := bits_sh ha
  have := bits_sh hb
  omega
theorem shr_nat (b : Int) (h : 0 ≤ b) (n : Nat) : b / 2 ^ n = ((b.toNat / 2 ^ n : Nat) : Int) := by
  obtain ⟨k, rfl⟩ := Int.eq_ofNat_of_zero_le h
  simp
/-- the loop of a product without carrying -/
theorem clm_turn (a b f i : Nat) : f ^^^ (clm a (b / 2 ^ i) * 2 ^ i) = (if b / 2 ^ i % 2 = 1 then f ^^^ (a * 2 ^ i) else f) ^^^ (clm a (b / 2 ^ (i + 1)) * 2 ^ (i + 1)) := by
  rw [clm_step a (b / 2 ^ i), Nat.div_div_eq_div_mul, ← Nat.pow_succ]
  have e : ∀ x y : Nat, (x ^^^ y) * 2 ^ i = (x * 2 ^ i) ^^^ (y * 2 ^ i) := fun x y => by
    rw [← Nat.shiftLeft_eq, Nat.shiftLeft_xor_distrib, Nat.shiftLeft_eq, Nat.shiftLeft_eq]
  rw [e, ← Nat.xor_assoc]
  have e2 : 2 * clm a (b / 2 ^ (i + 1)) * 2 ^ i = clm a (b / 2 ^ (i + 1)) * 2 ^ (i + 1) := by rw [Nat.pow_succ]; ac_rfl
  rw [e2]
  congr 1
  split <;> simp
theorem clm_over (a b : Nat) {n : Nat} (h : blen b ≤ n) : clm a (b / 2 ^ n) = 0 := by
  rw [Nat.div_eq_of_lt (blen_le_iff.mp h), clm_zero]
end Gen

namespace Gen
open PySem PySem.Spec PyProof.Rows L2 Mini
theorem compGo_ind {bind : PyData → Ev → Option Ev} {test : MT} {elt : ME} {env : Ev} {chk : ST → Prop} {Q : QE} {X : QX} (J : Nat → List PyData → ST → Prop) (items : List PyData)
    (hs : ∀ i x, items[i]? = some x → ∀ acc st, J i acc st → ∀ K : List PyData → ST → Prop, (∀ a s, J (i + 1) a s → K a s) → ∃ e1, bind x env = some e1 ∧ test e1 st (fun b s2 => if b = true then elt e1 s2 (fun v s3 => chk s3 ∧ acc.length < line ∧ ∃ d, v = .d d ∧ K (acc ++ [d]) s3) X else chk s2 ∧ K acc s2) X)
    (he : ∀ acc st, J items.length acc st → Q (.d (.list acc)) st) {st : ST} (h0 : J 0 [] st) : compGo bind test elt env chk items [] st Q X := by
  have key : ∀ (l : List PyData) (n : Nat), (∀ i x, l[i]? = some x → items[n + i]? = some x) → n + l.length = items.length → ∀ acc st, J n acc st → compGo bind test elt env chk l acc st Q X := by
    intro l
    induction l with
    | nil =>
      intro n _ hn acc st h
      simp only [List.length_nil, Nat.add_zero] at hn
      subst hn
      exact he acc st h
    | cons x xs ih =>
      intro n hi hn acc st h
      have nx : ∀ a s, J (n + 1) a s → compGo bind test elt env chk xs a s Q X := ih (n + 1) (fun i y hy => by
        have := hi (i + 1) y (by simpa using hy)
        rw [show n + 1 + i = n + (i + 1) by omega]
        exact this) (by simp at hn; omega)
      exact hs n x (by simpa using hi 0 x rfl) acc st h (fun a s => compGo bind test elt env chk xs a s Q X) nx
  exact key items 0 (fun i x h => by simpa using h) (by simp) [] st h0
/-- tests and items that change nothing -/
theorem compGo_pure {bind : PyData → Ev → Option Ev} {test : MT} {elt : ME} {env : Ev} {chk : ST → Prop} {Q : QE} {X : QX} {items : List PyData} (p : PyData → Bool) (f : PyData → PyData) {st : ST} (hl : items.length ≤ line) (hc : chk st)
    (hs : ∀ x ∈ items, ∃ e1, bind x env = some e1 ∧ (∀ R : Bool → ST → Prop, R (p x) st → test e1 st R X) ∧ (p x = true → ∀ R : QE, R (.d (f x)) st → elt e1 st R X))
    (hq : Q (.d (.list ((items.filter p).map f))) st) : compGo bind test elt env chk items [] st Q X := by
  refine compGo_ind (fun i acc s => s = st ∧ acc = ((items.take i).filter p).map f) items ?_ ?_ ⟨rfl, rfl⟩
  · rintro i x hx acc s ⟨rfl, rfl⟩ K hK
    have hi := (List.getElem?_eq_some_iff.mp hx).1
    obtain ⟨e1, h1, h2, h3⟩ := hs x (List.mem_of_getElem? hx)
    refine ⟨e1, h1, h2 _ ?_⟩
    have et : items.take (i + 1) = items.take i ++ [x] := by
      rw [List.take_add_one, hx]; rfl
    cases hp : p x with
    | true =>
      rw [if_pos rfl]
      refine h3 hp _ ⟨hc, ?_, f x, rfl, hK _ _ ⟨rfl, ?_⟩⟩
      · have h5 : (((items.take i).filter p).map f).length ≤ i := by
          rw [List.length_map]
          exact Nat.le_trans (List.length_filter_le _ _) (List.length_take_le _ _)
        omega
      · rw [et, List.filter_append, List.map_append, List.filter_cons_of_pos hp]; rfl
    | false =>
      rw [if_neg (by simp)]
      refine ⟨hc, hK _ _ ⟨rfl, ?_⟩⟩
      rw [et, List.filter_append, List.map_append, List.filter_cons_of_neg (by simp [hp])]; simp
  · rintro acc s ⟨rfl, rfl⟩
    rw [List.take_length]
    exact hq
end Gen

namespace Gen
open PySem PySem.Spec PyProof.Rows L2 Mini
def N__law_cell : List Str := ["_law_script", "_law_index"]
@[simp] def d__law_cell : Def := ⟨2, 2, 0,
  (.cons (.ite (.cmp .Lt (.var 1) (.blt .len (.cons (.var 0) .nil))) (.cons (.ret (.idx (.var 0) (.var 1))) .nil) .nil) (.cons (.ret (.bin .Mod (.blt .sum (.cons (.slc (.var 0) .none (.some (.cst (.int 1)))) .nil)) (.cst (.int 1000003)))) .nil))⟩
@[simp] def T__law_cell : Tab := ⟨[], [], ["len", "sum"]⟩
def N__law_generator : List Str := ["_law_script", "_law_index", "_law_seed"]
@[simp] def d__law_generator : Def := ⟨2, 3, 1,
  (.cons (.asg (.var 2) (.call 0 (.cons (.var 0) (.cons (.var 1) .nil)))) (.cons (.ret (.lst true (.cons (.bin .Mod (.blt .int (.cons (.blt .max (.cons (.bin .Sub (.var 2) (.bin .Pow (.cst (.int 10)) (.cst (.int 18)))) (.cons (.cst (.int 0)) .nil))) .nil)) (.bin .Pow (.bin .Pow (.cst (.int 10)) (.cst (.int 60))) (.cst (.int 10)))) (.cons (.bin .Mod (.blt .int (.cons (.var 2) .nil)) (.cst (.int 2147483647))) (.cons (.bin .Mult (.cst (.int 1000)) (.var 1)) .nil))))) .nil))⟩
@[simp] def T__law_generator : Tab := ⟨[("_law_cell", 2, sp__law_cell)], [], ["int", "max"]⟩
def N_is_kind : List Str := ["value"]
@[simp] def d_is_kind : Def := ⟨1, 1, 0,
  (.cons (.ret (.bop .And (.cons (.isi (.var 0) "str") (.cons (.cmp .In (.var 0) (.lst false (.cons (.cst (.str "hours")) (.cons (.cst (.str "bits")) .nil)))) .nil)))) .nil)⟩
@[simp] def T_is_kind : Tab := ⟨[], [], ["isinstance", "str"]⟩
def N_check_kind : List Str := ["kind"]
@[simp] def d_check_kind : Def := ⟨1, 1, 0,
  (.cons (.ite (.un .Not (.call 0 (.cons (.var 0) .nil))) (.cons .stuck .nil) .nil) .nil)⟩
@[simp] def T_check_kind : Tab := ⟨[("is_kind", 1, sp_is_kind)], [], []⟩
def N_is_whole : List Str := ["value"]
@[simp] def d_is_whole : Def := ⟨1, 1, 0,
  (.cons (.ret (.bop .And (.cons (.isi (.var 0) "int") (.cons (.un .Not (.isi (.var 0) "bool")) .nil)))) .nil)⟩
@[simp] def T_is_whole : Tab := ⟨[], [], ["isinstance", "int", "bool"]⟩
def N_is_count : List Str := ["value"]
@[simp] def d_is_count : Def := ⟨1, 1, 0,
  (.cons (.ret (.bop .And (.cons (.call 0 (.cons (.var 0) .nil)) (.cons (.cmp .GtE (.var 0) (.cst (.int 0))) .nil)))) .nil)⟩
@[simp] def T_is_count : Tab := ⟨[("is_whole", 1, sp_is_whole)], [], []⟩
def N_is_number_of : List Str := ["kind", "value"]
@[simp] def d_is_number_of : Def := ⟨2, 2, 0,
  (.cons (.ret (.ite (.cmp .Eq (.var 0) (.cst (.str "hours"))) (.call 0 (.cons (.var 1) .nil)) (.call 1 (.cons (.var 1) .nil)))) .nil)⟩
@[simp] def T_is_number_of : Tab := ⟨[("is_whole", 1, sp_is_whole), ("is_count", 1, sp_is_count)], [], []⟩
def N_check_of : List Str := ["kind", "number"]
@[simp] def d_check_of : Def := ⟨2, 2, 0,
  (.cons (.ite (.un .Not (.call 0 (.cons (.var 0) (.cons (.var 1) .nil)))) (.cons .stuck .nil) .nil) .nil)⟩
@[simp] def T_check_of : Tab := ⟨[("is_number_of", 2, sp_is_number_of)], [], []⟩
def N_check_pair : List Str := ["kind", "one", "other"]
@[simp] def d_check_pair : Def := ⟨3, 3, 0,
  (.cons (.expr (.call 0 (.cons (.var 0) .nil))) (.cons (.expr (.call 1 (.cons (.var 0) (.cons (.var 1) .nil)))) (.cons (.expr (.call 1 (.cons (.var 0) (.cons (.var 2) .nil)))) .nil)))⟩
@[simp] def T_check_pair : Tab := ⟨[("check_kind", 1, sp_check_kind), ("check_of", 2, sp_check_of)], [], []⟩
def N_add_in : List Str := ["kind", "one", "other"]
@[simp] def d_add_in : Def := ⟨3, 3, 0,
  (.cons (.ret (.ite (.cmp .Eq (.var 0) (.cst (.str "hours"))) (.bin .Add (.var 1) (.var 2)) (.bin .BitXor (.var 1) (.var 2)))) .nil)⟩
@[simp] def T_add_in : Tab := ⟨[], [], []⟩
def N_added : List Str := ["kind", "one", "other"]
@[simp] def d_added : Def := ⟨3, 3, 0,
  (.cons (.expr (.call 0 (.cons (.var 0) (.cons (.var 1) (.cons (.var 2) .nil))))) (.cons (.ret (.call 1 (.cons (.var 0) (.cons (.var 1) (.cons (.var 2) .nil))))) .nil))⟩
@[simp] def T_added : Tab := ⟨[("check_pair", 3, sp_check_pair), ("add_in", 3, sp_add_in)], [], []⟩
def N_less_in : List Str := ["kind", "one", "other"]
@[simp] def d_less_in : Def := ⟨3, 3, 0,
  (.cons (.ret (.ite (.cmp .Eq (.var 0) (.cst (.str "hours"))) (.bin .Sub (.var 1) (.var 2)) (.bin .BitXor (.var 1) (.var 2)))) .nil)⟩
@[simp] def T_less_in : Tab := ⟨[], [], []⟩
def N_less : List Str := ["kind", "one", "other"]
@[simp] def d_less : Def := ⟨3, 3, 0,
  (.cons (.expr (.call 0 (.cons (.var 0) (.cons (.var 1) (.cons (.var 2) .nil))))) (.cons (.ret (.call 1 (.cons (.var 0) (.cons (.var 1) (.cons (.var 2) .nil))))) .nil))⟩
@[simp] def T_less : Tab := ⟨[("check_pair", 3, sp_check_pair), ("less_in", 3, sp_less_in)], [], []⟩
def N_times_in : List Str := ["kind", "one", "other", "found", "place"]
@[simp] def d_times_in : Def := ⟨3, 5, 0,
  (.cons (.ite (.cmp .Eq (.var 0) (.cst (.str "hours"))) (.cons (.ret (.bin .Mult (.var 1) (.var 2))) .nil) .nil) (.cons (.asg (.var 3) (.cst (.int 0))) (.cons (.for_ (.var 4) (.rng1 (.bits (.var 2))) (.cons (.ite (.cmp .Eq (.bin .BitAnd (.bin .RShift (.var 2) (.var 4)) (.cst (.int 1))) (.cst (.int 1))) (.cons (.asg (.var 3) (.bin .BitXor (.var 3) (.bin .LShift (.var 1) (.var 4)))) .nil) .nil) .nil)) (.cons (.ret (.var 3)) .nil))))⟩
@[simp] def T_times_in : Tab := ⟨[], [], ["range"]⟩
def N_product : List Str := ["kind", "one", "other"]
@[simp] def d_product : Def := ⟨3, 3, 0,
  (.cons (.expr (.call 0 (.cons (.var 0) (.cons (.var 1) (.cons (.var 2) .nil))))) (.cons (.ret (.call 1 (.cons (.var 0) (.cons (.var 1) (.cons (.var 2) .nil))))) .nil))⟩
@[simp] def T_product : Tab := ⟨[("check_pair", 3, sp_check_pair), ("times_in", 3, sp_times_in)], [], []⟩
def N_check_number : List Str := ["number", "low", "high"]
@[simp] def d_check_number : Def := ⟨3, 3, 0,
  (.cons (.ite (.bop .Or (.cons (.un .Not (.call 0 (.cons (.var 0) .nil))) (.cons (.bop .And (.cons (.isc true (.var 1) .none) (.cons (.cmp .Lt (.var 0) (.var 1)) .nil))) (.cons (.bop .And (.cons (.isc true (.var 2) .none) (.cons (.cmp .Gt (.var 0) (.var 2)) .nil))) .nil)))) (.cons .stuck .nil) .nil) .nil)⟩
@[simp] def T_check_number : Tab := ⟨[("is_whole", 1, sp_is_whole)], [], []⟩
def N_divided_in : List Str := ["kind", "number", "by", "often", "rest", "place"]
@[simp] def d_divided_in : Def := ⟨3, 6, 0,
  (.cons (.ite (.cmp .Eq (.var 0) (.cst (.str "hours"))) (.cons (.ret (.tup (.cons (.bin .FloorDiv (.var 1) (.var 2)) (.cons (.bin .Mod (.var 1) (.var 2)) .nil)))) .nil) .nil) (.cons (.par [3, 4] (.cons (.cst (.int 0)) (.cons (.var 1) .nil))) (.cons (.whl (.cmp .GtE (.bits (.var 4)) (.bits (.var 2))) (.cons (.asg (.var 5) (.bin .Sub (.bits (.var 4)) (.bits (.var 2)))) (.cons (.par [3, 4] (.cons (.bin .BitOr (.var 3) (.bin .LShift (.cst (.int 1)) (.var 5))) (.cons (.bin .BitXor (.var 4) (.bin .LShift (.var 2) (.var 5))) .nil))) .nil))) (.cons (.ret (.tup (.cons (.var 3) (.cons (.var 4) .nil)))) .nil))))⟩
@[simp] def T_divided_in : Tab := ⟨[], [], []⟩
def N_quotient : List Str := ["kind", "one", "by"]
@[simp] def d_quotient : Def := ⟨3, 3, 0,
  (.cons (.expr (.call 0 (.cons (.var 0) .nil))) (.cons (.expr (.call 1 (.cons (.var 0) (.cons (.var 1) .nil)))) (.cons (.expr (.call 2 (.cons (.var 2) (.cons (.cst (.int 1)) (.cons (.cst .none) .nil))))) (.cons (.ret (.idx (.call 3 (.cons (.var 0) (.cons (.var 1) (.cons (.var 2) .nil)))) (.cst (.int 0)))) .nil))))⟩
@[simp] def T_quotient : Tab := ⟨[("check_kind", 1, sp_check_kind), ("check_of", 2, sp_check_of), ("check_number", 3, sp_check_number), ("divided_in", 3, sp_divided_in)], [], []⟩
def N_rest_in : List Str := ["kind", "number", "by"]
@[simp] def d_rest_in : Def := ⟨3, 3, 0,
  (.cons (.ret (.ite (.cmp .Eq (.var 2) (.cst (.int 0))) (.var 1) (.idx (.call 0 (.cons (.var 0) (.cons (.var 1) (.cons (.var 2) .nil)))) (.cst (.int 1))))) .nil)⟩
@[simp] def T_rest_in : Tab := ⟨[("divided_in", 3, sp_divided_in)], [], []⟩
def N_rest : List Str := ["kind", "one", "by"]
@[simp] def d_rest : Def := ⟨3, 3, 0,
  (.cons (.expr (.call 0 (.cons (.var 0) .nil))) (.cons (.expr (.call 1 (.cons (.var 0) (.cons (.var 1) .nil)))) (.cons (.expr (.call 2 (.cons (.var 2) (.cons (.cst (.int 0)) (.cons (.cst .none) .nil))))) (.cons (.ret (.call 3 (.cons (.var 0) (.cons (.var 1) (.cons (.var 2) .nil))))) .nil))))⟩
@[simp] def T_rest : Tab := ⟨[("check_kind", 1, sp_check_kind), ("check_of", 2, sp_check_of), ("check_number", 3, sp_check_number), ("rest_in", 3, sp_rest_in)], [], []⟩
def N_is_multiple_in : List Str := ["kind", "number", "by"]
@[simp] def d_is_multiple_in : Def := ⟨3, 3, 0,
  (.cons (.ret (.cmp .Eq (.call 0 (.cons (.var 0) (.cons (.var 1) (.cons (.var 2) .nil)))) (.cst (.int 0)))) .nil)⟩
@[simp] def T_is_multiple_in : Tab := ⟨[("rest_in", 3, sp_rest_in)], [], []⟩
def N_is_multiple : List Str := ["kind", "one", "by"]
@[simp] def d_is_multiple : Def := ⟨3, 3, 0,
  (.cons (.expr (.call 0 (.cons (.var 0) (.cons (.var 1) (.cons (.var 2) .nil))))) (.cons (.ret (.call 1 (.cons (.var 0) (.cons (.var 1) (.cons (.blt .abs (.cons (.var 2) .nil)) .nil))))) .nil))⟩
@[simp] def T_is_multiple : Tab := ⟨[("check_pair", 3, sp_check_pair), ("is_multiple_in", 3, sp_is_multiple_in)], [], ["abs"]⟩
def N__law_hash : List Str := ["_law_seed", "_law_index", "_law_mixed"]
@[simp] def d__law_hash : Def := ⟨2, 3, 0,
  (.cons (.asg (.var 2) (.bin .Mod (.blt .int (.cons (.bin .Add (.bin .Add (.bin .Add (.bin .Mult (.var 0) (.cst (.int 1140671))) (.bin .Mult (.bin .Mult (.cst (.int 27644437)) (.var 1)) (.var 1))) (.bin .Mult (.cst (.int 131)) (.var 1))) (.cst (.int 19))) .nil)) (.cst (.int 2147483629)))) (.cons (.asg (.var 2) (.bin .Mod (.blt .int (.cons (.bin .Add (.bin .Add (.bin .Mult (.var 2) (.var 2)) (.bin .Mult (.cst (.int 62089)) (.var 1))) (.cst (.int 32416187))) .nil)) (.cst (.int 2147483587)))) (.cons (.ret (.bin .Mod (.blt .int (.cons (.bin .Mult (.var 2) (.cst (.int 48271))) .nil)) (.cst (.int 2147483647)))) .nil)))⟩
@[simp] def T__law_hash : Tab := ⟨[], [], ["int"]⟩
def N__law_random : List Str := ["_law_generator_here", "_law_bound", "_law_drawn", "_law_turn"]
@[simp] def d__law_random : Def := ⟨2, 4, 0,
  (.cons (.ite (.cmp .Gt (.idx (.var 0) (.cst (.int 0))) (.cst (.int 0))) (.cons (.asg (.var 2) (.bin .Mod (.blt .int (.cons (.idx (.var 0) (.cst (.int 0))) .nil)) (.var 1))) (.cons (.set (.var 0) (.cst (.int 0)) (.bin .FloorDiv (.idx (.var 0) (.cst (.int 0))) (.var 1))) (.cons (.ret (.var 2)) .nil))) .nil) (.cons (.asg (.var 2) (.cst (.int 0))) (.cons (.for_ (.var 3) (.rng1 (.bin .Add (.cst (.int 1)) (.bin .FloorDiv (.bits (.var 1)) (.cst (.int 30))))) (.cons (.set (.var 0) (.cst (.int 2)) (.bin .Add (.idx (.var 0) (.cst (.int 2))) (.cst (.int 1)))) (.cons (.asg (.var 2) (.bin .Add (.bin .Mult (.var 2) (.cst (.int 2147483587))) (.call 0 (.cons (.idx (.var 0) (.cst (.int 1))) (.cons (.idx (.var 0) (.cst (.int 2))) .nil))))) .nil))) (.cons (.ret (.bin .Mod (.blt .int (.cons (.var 2) .nil)) (.var 1))) .nil))))⟩
@[simp] def T__law_random : Tab := ⟨[("_law_hash", 2, sp__law_hash)], [], ["int", "range"]⟩
def N__law_number : List Str := ["_law_generator_here", "_law_kind_there", "_law_most"]
@[simp] def d__law_number : Def := ⟨3, 3, 0,
  (.cons (.ret (.ite (.cmp .Eq (.var 1) (.cst (.str "hours"))) (.bin .Sub (.call 0 (.cons (.var 0) (.cons (.bin .Add (.bin .Mult (.cst (.int 2)) (.var 2)) (.cst (.int 1))) .nil))) (.var 2)) (.call 0 (.cons (.var 0) (.cons (.var 2) .nil))))) .nil)⟩
@[simp] def T__law_number : Tab := ⟨[("_law_random", 2, sp__law_random)], [], []⟩
def N__law_add : List Str := ["_law_kind_there", "_law_one", "_law_other"]
@[simp] def d__law_add : Def := ⟨3, 3, 0,
  (.cons (.ret (.ite (.cmp .Eq (.var 0) (.cst (.str "hours"))) (.bin .Add (.var 1) (.var 2)) (.bin .BitXor (.var 1) (.var 2)))) .nil)⟩
@[simp] def T__law_add : Tab := ⟨[], [], []⟩
def N__law_less : List Str := ["_law_kind_there", "_law_one", "_law_other"]
@[simp] def d__law_less : Def := ⟨3, 3, 0,
  (.cons (.ret (.ite (.cmp .Eq (.var 0) (.cst (.str "hours"))) (.bin .Sub (.var 1) (.var 2)) (.bin .BitXor (.var 1) (.var 2)))) .nil)⟩
@[simp] def T__law_less : Tab := ⟨[], [], []⟩
def N__law_times : List Str := ["_law_kind_there", "_law_one", "_law_other", "_law_found", "_law_place"]
@[simp] def d__law_times : Def := ⟨3, 5, 0,
  (.cons (.ite (.cmp .Eq (.var 0) (.cst (.str "hours"))) (.cons (.ret (.bin .Mult (.var 1) (.var 2))) .nil) .nil) (.cons (.asg (.var 3) (.cst (.int 0))) (.cons (.for_ (.var 4) (.rng1 (.bits (.blt .int (.cons (.var 2) .nil)))) (.cons (.ite (.cmp .Eq (.bin .BitAnd (.bin .RShift (.blt .int (.cons (.var 2) .nil)) (.var 4)) (.cst (.int 1))) (.cst (.int 1))) (.cons (.asg (.var 3) (.bin .BitXor (.var 3) (.bin .LShift (.var 1) (.var 4)))) .nil) .nil) .nil)) (.cons (.ret (.var 3)) .nil))))⟩
@[simp] def T__law_times : Tab := ⟨[], [], ["range", "int"]⟩
def N__law_rest : List Str := ["_law_kind_there", "_law_number_here", "_law_by", "_law_size"]
@[simp] def d__law_rest : Def := ⟨3, 4, 0,
  (.cons (.ite (.cmp .Eq (.var 2) (.cst (.int 0))) (.cons (.ret (.var 1)) .nil) .nil) (.cons (.ite (.cmp .Eq (.var 0) (.cst (.str "hours"))) (.cons (.ret (.bin .Mod (.blt .int (.cons (.var 1) .nil)) (.var 2))) .nil) .nil) (.cons (.asg (.var 3) (.bits (.blt .int (.cons (.var 2) .nil)))) (.cons (.whl (.bop .And (.cons (.cmp .Gt (.var 1) (.cst (.int 0))) (.cons (.cmp .GtE (.bits (.blt .int (.cons (.var 1) .nil))) (.var 3)) .nil))) (.cons (.asg (.var 1) (.bin .BitXor (.var 1) (.bin .LShift (.var 2) (.bin .Sub (.bits (.blt .int (.cons (.var 1) .nil))) (.var 3))))) .nil)) (.cons (.ret (.var 1)) .nil)))))⟩
@[simp] def T__law_rest : Tab := ⟨[], [], ["int"]⟩
def N__law_is_multiple : List Str := ["_law_kind_there", "_law_number_here", "_law_by"]
@[simp] def d__law_is_multiple : Def := ⟨3, 3, 0,
  (.cons (.ret (.cmp .Eq (.call 0 (.cons (.var 0) (.cons (.var 1) (.cons (.var 2) .nil)))) (.cst (.int 0)))) .nil)⟩
@[simp] def T__law_is_multiple : Tab := ⟨[("_law_rest", 3, sp__law_rest)], [], []⟩

local macro_rules
  | `(tactic| walk_at "dn") => `(tactic| simp only [denF, denB, denS, den, denL, denO, denI, denC, DE.of, testOf, boolOf, strict1, strict2, ex_eq_some, ex_ss, ex_di, ex_none, ex_call, ex_look2, ex_look1, ex_tru, some_if, some_map, map_some, looks_nil, looks_d, datas_nil, datas_d, ex_some2, tru_none, tru_bool, tru_int, tru_list, cmp_eq_int, cmp_ne_int, cmp_lt, cmp_le, cmp_gt, cmp_ge, cmp_eq_str, cmp_ne_str, op_add, op_sub, op_mul, op_fdv, op_mod, op_pow, op_shl, op_shr, op_and, op_or, op_xor, op_cat, un_neg, is_none, in_none, in_int, in_str, in_list, blt_len, blt_int, blt_abs, blt_max, blt_min, blt_repr, blt_sum, isi_int_int, isi_int_bool, isi_int_str, isi_str_str, isi_str_int, isi_str_bool, isi_bool_bool, isi_bool_int, isi_none_int, isi_none_str, isi_list_list, isi_list_int, isi_list_str, idx_list, idx_tuple, in2, spI1_at, spD_at, spKD_at, spKD_h, spKD_b, isW_int, isC_int, isN_int, isN_h, isN_b, sp_check_number_at, spK0_at, spK0_h, spK0_b, spK1_at, spK1_h, spK1_b, spK2_at, spK2_h, spK2_b, nk, kS_h, kS_b, l2, hours_bits, bits_hours, List.map_cons, List.map_nil, List.cons_append, List.nil_append, List.replicate_succ, List.replicate_zero, Nat.reduceSub, Nat.reduceAdd, List.getElem?_cons_zero, List.getElem?_cons_succ, List.set_cons_zero, List.set_cons_succ, if_true, if_false, Bool.false_eq_true, decide_eq_true_eq, decide_true, decide_false, Bool.not_true, Bool.not_false, Bool.or_true, Bool.true_or, Bool.or_false, Bool.false_or, exists_eq_left', true_and, and_true, eq_self, List.length_cons, List.length_nil, List.take_length, fin_d, fin_t, Bool.not_eq_true', decide_eq_false_iff_not, and_self, Bool.true_eq_false, reduceCtorEq])
theorem b_is_whole : ∀ (es : List EV) (s : ST) (Q : QE) (X : QX), es.length = d_is_whole.np → sp_is_whole es s Q X → denF T_is_whole d_is_whole es s Q X := by
  rintro es s Q X hl ⟨v, rfl, q⟩
  simp only [T_is_whole, d_is_whole]
  cases v with
  | tuple _ => walk_at "dn"; simp only [isi_tup_int]; walk_at "dn"; exact q
  | dict _ => walk_at "dn"; simp only [isi_dict_int]; walk_at "dn"; exact q
  | _ => walk_at "dn"; exact q
theorem b_is_count : ∀ (es : List EV) (s : ST) (Q : QE) (X : QX), es.length = d_is_count.np → sp_is_count es s Q X → denF T_is_count d_is_count es s Q X := by
  rintro es s Q X hl ⟨v, rfl, q⟩
  simp only [sp_is_whole, T_is_count, d_is_count]
  cases v with
  | int a => walk_at "dn"; exact q
  | _ => simp only [spD_at, isW]; walk_at "dn"; exact q
theorem b_is_kind : ∀ (es : List EV) (s : ST) (Q : QE) (X : QX), es.length = d_is_kind.np → sp_is_kind es s Q X → denF T_is_kind d_is_kind es s Q X := by
  rintro es s Q X hl ⟨k, rfl, q⟩
  simp only [T_is_kind, d_is_kind]
  cases k
  · walk_at "dn"
    exact q
  · walk_at "dn"
    exact q
theorem b_check_kind : ∀ (es : List EV) (s : ST) (Q : QE) (X : QX), es.length = d_check_kind.np → sp_check_kind es s Q X → denF T_check_kind d_check_kind es s Q X := by
  rintro es s Q X hl ⟨k, rfl, q⟩
  simp only [T_check_kind, d_check_kind, sp_is_kind]
  walk_at "dn"
  exact q
theorem b_is_number_of : ∀ (es : List EV) (s : ST) (Q : QE) (X : QX), es.length = d_is_number_of.np → sp_is_number_of es s Q X → denF T_is_number_of d_is_number_of es s Q X := by
  rintro es s Q X hl ⟨k, v, rfl, q⟩
  simp only [T_is_number_of, d_is_number_of, sp_is_whole, sp_is_count]
  cases k
  · walk_at "dn"
    have q' : Q (.d (.bool (isN .h v))) s := q
    rw [isN_h] at q'
    exact q'
  · walk_at "dn"
    have q' : Q (.d (.bool (isN .b v))) s := q
    rw [isN_b] at q'
    exact q'
theorem b_check_of : ∀ (es : List EV) (s : ST) (Q : QE) (X : QX), es.length = d_check_of.np → sp_check_of es s Q X → denF T_check_of d_check_of es s Q X := by
  rintro es s Q X hl ⟨k, a, rfl, p, q⟩
  simp only [T_check_of, d_check_of, sp_is_number_of]
  cases k
  · walk_at "dn"
    exact q
  · have p' : (0 : Int) ≤ a := p
    walk_at "dn"
    simp only [p', decide_true, Bool.not_true, Bool.false_eq_true, if_false]
    exact q
theorem b_check_pair : ∀ (es : List EV) (s : ST) (Q : QE) (X : QX), es.length = d_check_pair.np → sp_check_pair es s Q X → denF T_check_pair d_check_pair es s Q X := by
  rintro es s Q X hl ⟨k, a, b, rfl, ⟨p1, p2⟩, q⟩
  simp only [T_check_pair, d_check_pair, sp_check_kind, sp_check_of]
  walk_at "dn"
  exact ⟨p1, p2, q⟩
theorem b_add_in : ∀ (es : List EV) (s : ST) (Q : QE) (X : QX), es.length = d_add_in.np → sp_add_in es s Q X → denF T_add_in d_add_in es s Q X := by
  rintro es s Q X hl ⟨k, a, b, rfl, ⟨p1, p2⟩, q⟩
  simp only [T_add_in, d_add_in]
  cases k
  · walk_at "dn"
    exact q
  · walk_at "dn"
    rw [Bits.bitXor_pp p1 p2]
    exact q
theorem b_added : ∀ (es : List EV) (s : ST) (Q : QE) (X : QX), es.length = d_added.np → sp_added es s Q X → denF T_added d_added es s Q X := by
  rintro es s Q X hl ⟨k, a, b, rfl, ⟨p1, p2⟩, q⟩
  simp only [T_added, d_added, sp_check_pair, sp_add_in]
  walk_at "dn"
  exact ⟨⟨p1, p2⟩, ⟨p1, p2⟩, q⟩
theorem b_less_in : ∀ (es : List EV) (s : ST) (Q : QE) (X : QX), es.length = d_less_in.np → sp_less_in es s Q X → denF T_less_in d_less_in es s Q X := by
  rintro es s Q X hl ⟨k, a, b, rfl, ⟨p1, p2⟩, q⟩
  simp only [T_less_in, d_less_in]
  cases k
  · walk_at "dn"
    exact q
  · walk_at "dn"
    rw [Bits.bitXor_pp p1 p2]
    exact q
theorem b_less : ∀ (es : List EV) (s : ST) (Q : QE) (X : QX), es.length = d_less.np → sp_less es s Q X → denF T_less d_less es s Q X := by
  rintro es s Q X hl ⟨k, a, b, rfl, ⟨p1, p2⟩, q⟩
  simp only [T_less, d_less, sp_check_pair, sp_less_in]
  walk_at "dn"
  exact ⟨⟨p1, p2⟩, ⟨p1, p2⟩, q⟩
theorem b__law_add : ∀ (es : List EV) (s : ST) (Q : QE) (X : QX), es.length = d__law_add.np → sp__law_add es s Q X → denF T__law_add d__law_add es s Q X := by
  rintro es s Q X hl ⟨k, a, b, rfl, ⟨p1, p2⟩, q⟩
  simp only [T__law_add, d__law_add]
  cases k
  · walk_at "dn"
    exact q
  · walk_at "dn"
    rw [Bits.bitXor_pp p1 p2]
    exact q
theorem b__law_less : ∀ (es : List EV) (s : ST) (Q : QE) (X : QX), es.length = d__law_less.np → sp__law_less es s Q X → denF T__law_less d__law_less es s Q X := by
  rintro es s Q X hl ⟨k, a, b, rfl, ⟨p1, p2⟩, q⟩
  simp only [T__law_less, d__law_less]
  cases k
  · walk_at "dn"
    exact q
  · walk_at "dn"
    rw [Bits.bitXor_pp p1 p2]
    exact q
theorem b_product : ∀ (es : List EV) (s : ST) (Q : QE) (X : QX), es.length = d_product.np → sp_product es s Q X → denF T_product d_product es s Q X := by
  rintro es s Q X hl ⟨k, a, b, rfl, ⟨p1, p2⟩, q⟩
  simp only [T_product, d_product, sp_check_pair, sp_times_in]
  walk_at "dn"
  exact ⟨p1, ⟨p1, p2⟩, q⟩
theorem b_check_number : ∀ (es : List EV) (s : ST) (Q : QE) (X : QX), es.length = d_check_number.np → sp_check_number es s Q X → denF T_check_number d_check_number es s Q X := by
  rintro es s Q X hl ⟨a, lo, hi, rfl, p1, p2, q⟩
  simp only [T_check_number, d_check_number, sp_is_whole]
  rcases p1 with rfl | ⟨l, rfl, p1⟩ <;> rcases p2 with rfl | ⟨h, rfl, p2⟩ <;> walk_at "dn"
  all_goals first | exact q | (rw [if_neg (Int.not_lt.mpr p2)]; exact q) | (rw [if_neg (Int.not_lt.mpr p1)]; exact q) | (rw [if_neg (Int.not_lt.mpr p1), if_neg (Int.not_lt.mpr p2)]; exact q)
end Gen

namespace Gen
open PySem PySem.Spec PyProof.Rows L2 Mini
local macro_rules
  | `(tactic| walk_at "dn") => `(tactic| simp only [denF, denB, denS, den, denL, denO, denI, denC, DE.of, testOf, boolOf, strict1, strict2, ex_eq_some, ex_ss, ex_di, ex_none, ex_call, ex_look2, ex_look1, ex_tru, some_if, some_map, map_some, looks_nil, looks_d, datas_nil, datas_d, ex_some2, tru_none, tru_bool, tru_int, tru_list, cmp_eq_int, cmp_ne_int, cmp_lt, cmp_le, cmp_gt, cmp_ge, cmp_eq_str, cmp_ne_str, op_add, op_sub, op_mul, op_fdv, op_mod, op_pow, op_shl, op_shr, op_and, op_or, op_xor, op_cat, un_neg, is_none, in_none, in_int, in_str, in_list, blt_len, blt_int, blt_abs, blt_max, blt_min, blt_repr, blt_sum, isi_int_int, isi_int_bool, isi_int_str, isi_str_str, isi_str_int, isi_str_bool, isi_bool_bool, isi_bool_int, isi_none_int, isi_none_str, isi_list_list, isi_list_int, isi_list_str, idx_list, idx_tuple, in2, spI1_at, spD_at, spKD_at, spKD_h, spKD_b, isW_int, isC_int, isN_int, isN_h, isN_b, sp_check_number_at, spK0_at, spK0_h, spK0_b, spK1_at, spK1_h, spK1_b, spK2_at, spK2_h, spK2_b, nk, kS_h, kS_b, l2, hours_bits, bits_hours, List.map_cons, List.map_nil, List.cons_append, List.nil_append, List.replicate_succ, List.replicate_zero, Nat.reduceSub, Nat.reduceAdd, List.getElem?_cons_zero, List.getElem?_cons_succ, List.set_cons_zero, List.set_cons_succ, if_true, if_false, Bool.false_eq_true, decide_eq_true_eq, decide_true, decide_false, Bool.not_true, Bool.not_false, Bool.or_true, Bool.true_or, Bool.or_false, Bool.false_or, exists_eq_left', true_and, and_true, eq_self, List.length_cons, List.length_nil, List.take_length, fin_d, fin_t, Bool.not_eq_true', decide_eq_false_iff_not, and_self, Bool.true_eq_false, reduceCtorEq])
theorem b_times_in : ∀ (es : List EV) (s : ST) (Q : QE) (X : QX), es.length = d_times_in.np → sp_times_in es s Q X → denF T_times_in d_times_in es s Q X := by
  rintro es s Q X hl ⟨k, a, b, rfl, ⟨⟨p1, p2⟩, s1, s2⟩, q⟩
  simp only [T_times_in, d_times_in]
  cases k
  · walk_at "dn"
    exact ⟨mul_fit s1 s2, q⟩
  · walk_at "dn"
    have p1' : 0 ≤ a := p1
    have p2' : 0 ≤ b := p2
    rw [bits_nat b p2']
    have hb : blen b.toNat ≤ 1000 := by rw [← bits_nat b p2']; exact bits_sh s2
    refine ⟨by omega, by omega, ?_⟩
    refine forGo_ind (fun i env st => st = s ∧ ∃ (f : Nat) (pl : Option EV), env = [some (.d (.str "bits")), some (.d (.int a)), some (.d (.int b)), some (.d (.int f)), pl] ∧ f ^^^ (clm a.toNat (b.toNat / 2 ^ i) * 2 ^ i) = clm a.toNat b.toNat) _ ?_ ?_ ⟨rfl, 0, none, rfl, by simp⟩
    · rintro i x hx env st ⟨rfl, f, pl, rfl, hf⟩ k' e1 e2 e3 hn hc
      obtain ⟨rfl, hi⟩ := rngP_get hx
      refine ⟨_, rfl, ?_⟩
      walk_at "dn"
      have hz : (0 + (i : Int)).toNat = i := by omega
      have hs := bits_sh s1
      have ht := clm_turn a.toNat b.toNat f i
      rw [hz, shr_nat b p2', bitAnd_m1]
      refine ⟨by omega, ?_⟩
      by_cases hbit : b.toNat / 2 ^ i % 2 = 1
      · rw [if_pos (by omega)]
        refine ⟨⟨by omega, by omega⟩, ?_⟩
        refine hn _ _ trivial ⟨rfl, f ^^^ (a.toNat * 2 ^ i), some (.d (.int (0 + (i : Int)))), ?_, ?_⟩
        · have ea : a * 2 ^ i = ((a.toNat * 2 ^ i : Nat) : Int) := by
            obtain ⟨n, rfl⟩ := Int.eq_ofNat_of_zero_le p1'
            simp
          rw [ea, Bits.bitXor_pp (by omega) (by omega)]
          simp only [Int.toNat_natCast]
        · rw [if_pos hbit] at ht
          rw [← ht, hf]
      · rw [if_neg (by omega)]
        refine hn _ _ trivial ⟨rfl, f, _, rfl, ?_⟩
        rw [if_neg hbit] at ht
        rw [← ht, hf]
    · rintro env st ⟨rfl, f, pl, rfl, hf⟩
      walk_at "dn"
      rw [clm_over _ _ (by rw [rngP_len]; omega), Nat.zero_mul, Nat.xor_zero] at hf
      rw [hf]
      exact q
end Gen

namespace Gen
open PySem PySem.Spec PyProof.Rows L2 Mini
local macro_rules
  | `(tactic| walk_at "dn") => `(tactic| simp only [denF, denB, denS, den, denL, denO, denI, denC, DE.of, testOf, boolOf, strict1, strict2, ex_eq_some, ex_ss, ex_di, ex_none, ex_call, ex_look2, ex_look1, ex_tru, some_if, some_map, map_some, looks_nil, looks_d, datas_nil, datas_d, ex_some2, tru_none, tru_bool, tru_int, tru_list, cmp_eq_int, cmp_ne_int, cmp_lt, cmp_le, cmp_gt, cmp_ge, cmp_eq_str, cmp_ne_str, op_add, op_sub, op_mul, op_fdv, op_mod, op_pow, op_shl, op_shr, op_and, op_or, op_xor, op_cat, un_neg, is_none, in_none, in_int, in_str, in_list, blt_len, blt_int, blt_abs, blt_max, blt_min, blt_repr, blt_sum, isi_int_int, isi_int_bool, isi_int_str, isi_str_str, isi_str_int, isi_str_bool, isi_bool_bool, isi_bool_int, isi_none_int, isi_none_str, isi_list_list, isi_list_int, isi_list_str, idx_list, idx_tuple, in2, spI1_at, spD_at, spKD_at, spKD_h, spKD_b, isW_int, isC_int, isN_int, isN_h, isN_b, sp_check_number_at, spK0_at, spK0_h, spK0_b, spK1_at, spK1_h, spK1_b, spK2_at, spK2_h, spK2_b, nk, kS_h, kS_b, l2, hours_bits, bits_hours, List.map_cons, List.map_nil, List.cons_append, List.nil_append, List.replicate_succ, List.replicate_zero, Nat.reduceSub, Nat.reduceAdd, List.getElem?_cons_zero, List.getElem?_cons_succ, List.set_cons_zero, List.set_cons_succ, if_true, if_false, Bool.false_eq_true, decide_eq_true_eq, decide_true, decide_false, Bool.not_true, Bool.not_false, Bool.or_true, Bool.true_or, Bool.or_false, Bool.false_or, exists_eq_left', true_and, and_true, eq_self, List.length_cons, List.length_nil, List.take_length, fin_d, fin_t, Bool.not_eq_true', decide_eq_false_iff_not, and_self, Bool.true_eq_false, reduceCtorEq])
theorem l2' : 2 ≤ line := by decide
theorem b__law_times : ∀ (es : List EV) (s : ST) (Q : QE) (X : QX), es.length = d__law_times.np → sp__law_times es s Q X → denF T__law_times d__law_times es s Q X := by
  rintro es s Q X hl ⟨k, a, b, rfl, ⟨⟨p1, p2⟩, s1, s2⟩, q⟩
  simp only [T__law_times, d__law_times]
  cases k
  · walk_at "dn"
    exact ⟨mul_fit s1 s2, q⟩
  · walk_at "dn"
    have p1' : 0 ≤ a := p1
    have p2' : 0 ≤ b := p2
    rw [bits_nat b p2']
    have hb : blen b.toNat ≤ 1000 := by rw [← bits_nat b p2']; exact bits_sh s2
    refine ⟨by omega, by omega, ?_⟩
    refine forGo_ind (fun i env st => st = s ∧ ∃ (f : Nat) (pl : Option EV), env = [some (.d (.str "bits")), some (.d (.int a)), some (.d (.int b)), some (.d (.int f)), pl] ∧ f ^^^ (clm a.toNat (b.toNat / 2 ^ i) * 2 ^ i) = clm a.toNat b.toNat) _ ?_ ?_ ⟨rfl, 0, none, rfl, by simp⟩
    · rintro i x hx env st ⟨rfl, f, pl, rfl, hf⟩ k' e1 e2 e3 hn hc
      obtain ⟨rfl, hi⟩ := rngP_get hx
      refine ⟨_, rfl, ?_⟩
      walk_at "dn"
      have hz : (0 + (i : Int)).toNat = i := by omega
      have hs := bits_sh s1
      have ht := clm_turn a.toNat b.toNat f i
      rw [hz, shr_nat b p2', bitAnd_m1]
      refine ⟨by omega, ?_⟩
      by_cases hbit : b.toNat / 2 ^ i % 2 = 1
      · rw [if_pos (by omega)]
        refine ⟨⟨by omega, by omega⟩, ?_⟩
        refine hn _ _ trivial ⟨rfl, f ^^^ (a.toNat * 2 ^ i), some (.d (.int (0 + (i : Int)))), ?_, ?_⟩
        · have ea : a * 2 ^ i = ((a.toNat * 2 ^ i : Nat) : Int) := by
            obtain ⟨n, rfl⟩ := Int.eq_ofNat_of_zero_le p1'
            simp
          rw [ea, Bits.bitXor_pp (by omega) (by omega)]
          simp only [Int.toNat_natCast]
        · rw [if_pos hbit] at ht
          rw [← ht, hf]
      · rw [if_neg (by omega)]
        refine hn _ _ trivial ⟨rfl, f, _, rfl, ?_⟩
        rw [if_neg hbit] at ht
        rw [← ht, hf]
    · rintro env st ⟨rfl, f, pl, rfl, hf⟩
      walk_at "dn"
      rw [clm_over _ _ (by rw [rngP_len]; omega), Nat.zero_mul, Nat.xor_zero] at hf
      rw [hf]
      exact q
theorem b_divided_in : ∀ (es : List EV) (s : ST) (Q : QE) (X : QX), es.length = d_divided_in.np → sp_divided_in es s Q X → denF T_divided_in d_divided_in es s Q X := by
  rintro es s Q X hl ⟨k, a, b, rfl, ⟨p1, p2, s1, s2⟩, q⟩
  simp only [T_divided_in, d_divided_in]
  cases k
  · walk_at "dn"
    exact ⟨⟨by omega, log_sh s2⟩, by omega, q⟩
  · walk_at "dn"
    have p1' : 0 ≤ a := p1
    refine ⟨_, rfl, ?_⟩
    refine whlGo_ind (fun m env st => st = s ∧ ∃ (o r : Nat) (pl : Option EV), env = [some (.d (.str "bits")), some (.d (.int a)), some (.d (.int b)), some (.d (.int o)), some (.d (.int r)), pl] ∧ blen r = m ∧ m ≤ 1000 ∧ cdv b.toNat o r = cdv b.toNat 0 a.toNat) ?_ (blen a.toNat) ⟨rfl, 0, a.toNat, none, ?_, rfl, ?_, rfl⟩
    · rintro m env st ⟨rfl, o, r, pl, rfl, hm, hm2, hc⟩ k' e1 e2 e3 hn hc'
      have hb0 : b.toNat ≠ 0 := by omega
      have hbl : blen b.toNat ≤ 1000 := by rw [← bits_nat b (by omega)]; exact bits_sh s2
      walk_at "dn"
      rw [bits_nat b (by omega), bits_nat (r : Int) (by omega), Int.toNat_natCast]
      by_cases h : blen b.toNat ≤ blen r
      · rw [if_pos (by omega)]
        have hz : ((blen r : Int) - (blen b.toNat : Int)).toNat = blen r - blen b.toNat := by omega
        have hi1 : Builtin.Int.intBits 1 = 1 := by decide
        have hs := bits_sh s2
        rw [hz, hi1]
        refine ⟨⟨by omega, by omega⟩, ⟨by omega, by omega⟩, _, rfl, ?_⟩
        have lt := cstep_lt hb0 h
        refine hn _ _ (blen (cstep r b.toNat)) (by omega) ⟨rfl, o ||| 2 ^ (blen r - blen b.toNat), cstep r b.toNat, some (.d (.int ((blen r : Int) - (blen b.toNat : Int)))), ?_, rfl, by omega, ?_⟩
        · have eb : b * 2 ^ (blen r - blen b.toNat) = ((b.toNat * 2 ^ (blen r - blen b.toNat) : Nat) : Int) := by
            obtain ⟨n, rfl⟩ := Int.eq_ofNat_of_zero_le (show 0 ≤ b by omega)
            simp
          have eo : (1 : Int) * 2 ^ (blen r - blen b.toNat) = ((2 ^ (blen r - blen b.toNat) : Nat) : Int) := by simp
          rw [eb, eo, Bits.bitXor_pp (Int.natCast_nonneg _) (Int.natCast_nonneg _), Bits.bitOr_pp (Int.natCast_nonneg _) (Int.natCast_nonneg _)]
          simp only [Int.toNat_natCast, cstep]
          rfl
        · rw [← hc, cdv_go hb0 h]
      · rw [if_neg (by omega)]
        rw [cdv_end h] at hc
        have q' := q
        simp only [kQuo, kMod, ← hc] at q'
        exact q'
    · have : ((a.toNat : Nat) : Int) = a := by omega
      simp only [this]
      rfl
    · rw [← bits_nat a p1']; exact bits_sh s1
end Gen

namespace Gen
open PySem PySem.Spec PyProof.Rows L2 Mini
local macro_rules
  | `(tactic| walk_at "dn") => `(tactic| simp only [denF, denB, denS, den, denL, denO, denI, denC, DE.of, testOf, boolOf, strict1, strict2, ex_eq_some, ex_ss, ex_di, ex_none, ex_call, ex_look2, ex_look1, ex_tru, some_if, some_map, map_some, looks_nil, looks_d, datas_nil, datas_d, ex_some2, tru_none, tru_bool, tru_int, tru_list, cmp_eq_int, cmp_ne_int, cmp_lt, cmp_le, cmp_gt, cmp_ge, cmp_eq_str, cmp_ne_str, op_add, op_sub, op_mul, op_fdv, op_mod, op_pow, op_shl, op_shr, op_and, op_or, op_xor, op_cat, un_neg, is_none, in_none, in_int, in_str, in_list, blt_len, blt_int, blt_abs, blt_max, blt_min, blt_repr, blt_sum, isi_int_int, isi_int_bool, isi_int_str, isi_str_str, isi_str_int, isi_str_bool, isi_bool_bool, isi_bool_int, isi_none_int, isi_none_str, isi_list_list, isi_list_int, isi_list_str, idx_list, idx_tuple, in2, spI1_at, spD_at, spKD_at, spKD_h, spKD_b, isW_int, isC_int, isN_int, isN_h, isN_b, sp_check_number_at, spK0_at, spK0_h, spK0_b, spK1_at, spK1_h, spK1_b, spK2_at, spK2_h, spK2_b, nk, kS_h, kS_b, l2, hours_bits, bits_hours, List.map_cons, List.map_nil, List.cons_append, List.nil_append, List.replicate_succ, List.replicate_zero, Nat.reduceSub, Nat.reduceAdd, List.getElem?_cons_zero, List.getElem?_cons_succ, List.set_cons_zero, List.set_cons_succ, if_true, if_false, Bool.false_eq_true, decide_eq_true_eq, decide_true, decide_false, Bool.not_true, Bool.not_false, Bool.or_true, Bool.true_or, Bool.or_false, Bool.false_or, exists_eq_left', true_and, and_true, eq_self, List.length_cons, List.length_nil, List.take_length, fin_d, fin_t, Bool.not_eq_true', decide_eq_false_iff_not, and_self, Bool.true_eq_false, reduceCtorEq])
theorem b_quotient : ∀ (es : List EV) (s : ST) (Q : QE) (X : QX), es.length = d_quotient.np → sp_quotient es s Q X → denF T_quotient d_quotient es s Q X := by
  rintro es s Q X hl ⟨k, a, b, rfl, ⟨p1, p2, s1, s2⟩, q⟩
  simp only [T_quotient, d_quotient, sp_check_kind, sp_check_of, sp_divided_in]
  walk_at "dn"
  exact ⟨p1, p2, ⟨p1, p2, s1, s2⟩, _, rfl, q⟩
theorem b_rest_in : ∀ (es : List EV) (s : ST) (Q : QE) (X : QX), es.length = d_rest_in.np → sp_rest_in es s Q X → denF T_rest_in d_rest_in es s Q X := by
  rintro es s Q X hl ⟨k, a, b, rfl, ⟨p1, p2, s1, s2⟩, q⟩
  simp only [T_rest_in, d_rest_in, sp_divided_in]
  walk_at "dn"
  by_cases h : b = 0
  · rw [if_pos h]
    simp only [kRest, if_pos h] at q
    exact q
  · rw [if_neg h]
    simp only [kRest, if_neg h] at q
    exact ⟨⟨p1, by omega, s1, s2⟩, _, rfl, q⟩
theorem b_rest : ∀ (es : List EV) (s : ST) (Q : QE) (X : QX), es.length = d_rest.np → sp_rest es s Q X → denF T_rest d_rest es s Q X := by
  rintro es s Q X hl ⟨k, a, b, rfl, ⟨p1, p2, s1, s2⟩, q⟩
  simp only [T_rest, d_rest, sp_check_kind, sp_check_of, sp_rest_in]
  walk_at "dn"
  exact ⟨p1, p2, ⟨p1, p2, s1, s2⟩, q⟩
theorem b_is_multiple_in : ∀ (es : List EV) (s : ST) (Q : QE) (X : QX), es.length = d_is_multiple_in.np → sp_is_multiple_in es s Q X → denF T_is_multiple_in d_is_multiple_in es s Q X := by
  rintro es s Q X hl ⟨k, a, b, rfl, ⟨p1, p2, s1, s2⟩, q⟩
  simp only [T_is_multiple_in, d_is_multiple_in, sp_rest_in]
  walk_at "dn"
  exact ⟨⟨p1, p2, s1, s2⟩, q⟩
theorem abs_nat (b : Int) : (if b < 0 then -b else b) = (b.natAbs : Int) := by
  split <;> omega
theorem b_is_multiple : ∀ (es : List EV) (s : ST) (Q : QE) (X : QX), es.length = d_is_multiple.np → sp_is_multiple es s Q X → denF T_is_multiple d_is_multiple es s Q X := by
  rintro es s Q X hl ⟨k, a, b, rfl, ⟨p1, p2, s1, s2⟩, q⟩
  simp only [T_is_multiple, d_is_multiple, sp_check_pair, sp_is_multiple_in]
  walk_at "dn"
  rw [abs_nat]
  exact ⟨⟨p1, p2⟩, ⟨p1, by omega, s1, by unfold sh at *; omega⟩, q⟩
theorem b__law_rest : ∀ (es : List EV) (s : ST) (Q : QE) (X : QX), es.length = d__law_rest.np → sp__law_rest es s Q X → denF T__law_rest d__law_rest es s Q X := by
  rintro es s Q X hl ⟨k, a, b, rfl, ⟨p1, p2, s1, s2⟩, q⟩
  simp only [T__law_rest, d__law_rest]
  cases k
  · walk_at "dn"
    by_cases h : b = 0
    · rw [if_pos h]
      simp only [kRest, if_pos h] at q
      exact q
    · rw [if_neg h]
      simp only [kRest, if_neg h] at q
      exact ⟨by omega, q⟩
  · walk_at "dn"
    have p1' : 0 ≤ a := p1
    by_cases h : b = 0
    · rw [if_pos h]
      simp only [kRest, if_pos h] at q
      exact q
    rw [if_neg h]
    simp only [kRest, if_neg h] at q
    rw [bits_nat b p2]
    have hb0 : b.toNat ≠ 0 := by omega
    have hbl : blen b.toNat ≤ 1000 := by rw [← bits_nat b (by omega)]; exact bits_sh s2
    have hs := bits_sh s2
    refine whlGo_ind (fun m env st => st = s ∧ ∃ (r : Nat), env = [some (.d (.str "bits")), some (.d (.int r)), some (.d (.int b)), some (.d (.int (blen b.toNat)))] ∧ blen r = m ∧ m ≤ 1000 ∧ (cdv b.toNat 0 r).2 = (cdv b.toNat 0 a.toNat).2) ?_ (blen a.toNat) ⟨rfl, a.toNat, ?_, rfl, ?_, rfl⟩
    · rintro m env st ⟨rfl, r, rfl, hm, hm2, hc⟩ k' e1 e2 e3 hn hc'
      walk_at "dn"
      rw [bits_nat (r : Int) (by omega), Int.toNat_natCast]
      by_cases h : blen b.toNat ≤ blen r
      · have hr0 : r ≠ 0 := by
          rintro rfl
          have := blen_pos hb0
          have z : blen 0 = 0 := rfl
          omega
        rw [if_pos (by omega)]
        rw [if_pos (by omega)]
        have hz : ((blen r : Int) - (blen b.toNat : Int)).toNat = blen r - blen b.toNat := by omega
        rw [hz]
        have lt := cstep_lt hb0 h
        refine ⟨⟨by omega, by omega⟩, ?_⟩
        refine hn _ _ (blen (cstep r b.toNat)) (by omega) ⟨rfl, cstep r b.toNat, ?_, rfl, by omega, ?_⟩
        · have eb : b * 2 ^ (blen r - blen b.toNat) = ((b.toNat * 2 ^ (blen r - blen b.toNat) : Nat) : Int) := by
            obtain ⟨n, rfl⟩ := Int.eq_ofNat_of_zero_le p2
            simp
          rw [eb, Bits.bitXor_pp (Int.natCast_nonneg _) (Int.natCast_nonneg _)]
          simp only [Int.toNat_natCast, cstep]
        · rw [← hc, cdv_go hb0 h]
          exact cdv_snd _ _ _ _ _ rfl
      · have q' := q
        simp only [kMod, ← hc, cdv_end h] at q'
        by_cases hr : (0 : Int) < r
        · rw [if_pos hr, if_neg (by omega)]
          exact q'
        · rw [if_neg hr]
          exact q'
    · have : ((a.toNat : Nat) : Int) = a := by omega
      simp only [this]
    · rw [← bits_nat a p1']; exact bits_sh s1
theorem b__law_is_multiple : ∀ (es : List EV) (s : ST) (Q : QE) (X : QX), es.length = d__law_is_multiple.np → sp__law_is_multiple es s Q X → denF T__law_is_multiple d__law_is_multiple es s Q X := by
  rintro es s Q X hl ⟨k, a, b, rfl, ⟨p1, p2, s1, s2⟩, q⟩
  simp only [T__law_is_multiple, d__law_is_multiple, sp__law_rest, sp_rest_in]
  walk_at "dn"
  exact ⟨⟨p1, p2, s1, s2⟩, q⟩
end Gen

namespace Gen
open PySem PySem.Spec PyProof.Rows L2 Mini
local macro_rules
  | `(tactic| walk_at "dn") => `(tactic| simp only [denF, denB, denS, den, denL, denO, denI, denC, DE.of, testOf, boolOf, strict1, strict2, ex_eq_some, ex_ss, ex_di, ex_none, ex_call, ex_look2, ex_look1, ex_tru, some_if, some_map, map_some, looks_nil, looks_d, datas_nil, datas_d, ex_some2, tru_none, tru_bool, tru_int, tru_list, cmp_eq_int, cmp_ne_int, cmp_lt, cmp_le, cmp_gt, cmp_ge, cmp_eq_str, cmp_ne_str, op_add, op_sub, op_mul, op_fdv, op_mod, op_pow, op_shl, op_shr, op_and, op_or, op_xor, op_cat, un_neg, is_none, in_none, in_int, in_str, in_list, blt_len, blt_int, blt_abs, blt_max, blt_min, blt_repr, blt_sum, isi_int_int, isi_int_bool, isi_int_str, isi_str_str, isi_str_int, isi_str_bool, isi_bool_bool, isi_bool_int, isi_none_int, isi_none_str, isi_list_list, isi_list_int, isi_list_str, idx_list, idx_tuple, in2, spI1_at, spD_at, spKD_at, spKD_h, spKD_b, isW_int, isC_int, isN_int, isN_h, isN_b, sp_check_number_at, spK0_at, spK0_h, spK0_b, spK1_at, spK1_h, spK1_b, spK2_at, spK2_h, spK2_b, nk, kS_h, kS_b, l2, hours_bits, bits_hours, List.map_cons, List.map_nil, List.cons_append, List.nil_append, List.replicate_succ, List.replicate_zero, Nat.reduceSub, Nat.reduceAdd, List.getElem?_cons_zero, List.getElem?_cons_succ, List.set_cons_zero, List.set_cons_succ, if_true, if_false, Bool.false_eq_true, decide_eq_true_eq, decide_true, decide_false, Bool.not_true, Bool.not_false, Bool.or_true, Bool.true_or, Bool.or_false, Bool.false_or, exists_eq_left', true_and, and_true, eq_self, List.length_cons, List.length_nil, List.take_length, fin_d, fin_t, Bool.not_eq_true', decide_eq_false_iff_not, and_self, Bool.true_eq_false, reduceCtorEq])
theorem intsF_map (ns : List Int) : intsF (ns.map .int) = some ns := by
  induction ns with
  | nil => rfl
  | cons n ns ih => simp only [List.map_cons, intsF, ih, Option.map_some]
theorem cutP_ints (ns : List Int) (lo hi : Option Int) : ∃ ms : List Int, cutP (ns.map .int) lo hi = ms.map .int := by
  unfold cutP
  exact ⟨_, by rw [← List.map_drop, ← List.map_take]⟩
theorem atI_ints {ns : List Int} {i : Int} (h0 : 0 ≤ i) (h1 : i < ns.length) : ∃ x : Int, atI (ns.map PyData.int) i = some (.int x) := by
  have h2 : i.toNat < ns.length := by omega
  refine ⟨ns[i.toNat], ?_⟩
  unfold atI L2.ixN
  rw [if_pos h0, if_pos (by simpa using h1), Option.bind_some, List.getElem?_map, List.getElem?_eq_getElem h2]
  rfl
theorem slc_list {xs : List PyData} {lo hi : Option Int} : slcF (.list xs) lo hi = some (.list (cutP xs lo hi)) := rfl
theorem fit {a b : Int} (m n : Nat) (ha : a.natAbs < 2 ^ m) (hb : b.natAbs < 2 ^ n) (h : m + n ≤ 134217728) : (Builtin.Int.intBits a : Int) + (Builtin.Int.intBits b : Int) ≤ 134217728 := by
  have := bits_le ha
  have := bits_le hb
  omega
theorem b__law_cell : ∀ (es : List EV) (s : ST) (Q : QE) (X : QX), es.length = d__law_cell.np → sp__law_cell es s Q X → denF T__law_cell d__law_cell es s Q X := by
  rintro es s Q X hl ⟨ns, i, rfl, p1, q⟩
  simp only [T__law_cell, d__law_cell]
  walk_at "dn"
  simp only [slc_list, ex_eq_some]
  by_cases h : i < ns.length
  · rw [if_pos (by simpa using h)]
    obtain ⟨x, hx⟩ := atI_ints p1 h
    exact ⟨_, hx, q x⟩
  · rw [if_neg (by simpa using h)]
    obtain ⟨ms, hm⟩ := cutP_ints ns none (some 1)
    rw [hm]
    refine ⟨.int ms.sum, by rw [blt_sum, intsF_map]; rfl, .int (ms.sum % 1000003), by rw [op_mod, if_pos (by decide)], q _⟩
theorem sp__law_cell_at {ns : List Int} {i : Int} {st Q X} : sp__law_cell [.d (.list (ns.map PyData.int)), .d (.int i)] st Q X ↔ 0 ≤ i ∧ ∀ x : Int, Q (.d (.int x)) st := by
  constructor
  · rintro ⟨ns', i', e, p, q⟩
    simp only [List.cons.injEq, EV.d.injEq, PyData.int.injEq, and_true] at e
    obtain ⟨_, rfl⟩ := e
    exact ⟨p, q⟩
  · rintro ⟨p, q⟩
    exact ⟨ns, i, rfl, p, q⟩
theorem pow18 : (10 : Int) ^ Int.toNat 18 = 1000000000000000000 := by decide
theorem b__law_generator : ∀ (es : List EV) (s : ST) (Q : QE) (X : QX), es.length = d__law_generator.np → sp__law_generator es s Q X → denF T__law_generator d__law_generator es s Q X := by
  rintro es s Q X hl ⟨ns, i, rfl, ⟨p1, p2⟩, q⟩
  simp only [T__law_generator, d__law_generator]
  walk_at "dn"
  rw [sp__law_cell_at]
  refine ⟨p1, fun x => ?_⟩
  walk_at "dn"
  refine ⟨by decide, by decide, ⟨by decide, ?_⟩, ?_, by decide, ?_, by decide, ?_⟩
  · rw [show (Builtin.Int.intBits ((10 : Int) ^ Int.toNat 60) : Int) = 200 by decide +kernel]; decide
  · exact Int.pow_pos (by decide)
  · exact fit 20 20 (by decide) (by omega) (by decide)
  · exact q _ _ (by omega) (by omega)
theorem b__law_hash : ∀ (es : List EV) (s : ST) (Q : QE) (X : QX), es.length = d__law_hash.np → sp__law_hash es s Q X → denF T__law_hash d__law_hash es s Q X := by
  rintro es s Q X hl ⟨a, c, rfl, ⟨⟨p1, p2⟩, p3, p4⟩, q⟩
  simp only [T__law_hash, d__law_hash]
  walk_at "dn"
  refine ⟨fit 80 80 (by omega) (by omega) (by decide), fit 80 80 (by omega) (by omega) (by decide), fit 80 80 (by omega) (by omega) (by decide), fit 80 80 (by omega) (by omega) (by decide), by decide, fit 80 80 (by omega) (by omega) (by decide), fit 80 80 (by omega) (by omega) (by decide), by decide, fit 80 80 (by omega) (by omega) (by decide), by decide, q _ (by omega) (by omega)⟩
end Gen

namespace Gen
open PySem PySem.Spec PyProof.Rows L2 Mini
local macro_rules
  | `(tactic| walk_at "dn") => `(tactic| simp only [denF, denB, denS, den, denL, denO, denI, denC, DE.of, testOf, boolOf, strict1, strict2, ex_eq_some, ex_ss, ex_di, ex_none, ex_call, ex_look2, ex_look1, ex_tru, some_if, some_map, map_some, looks_nil, looks_d, datas_nil, datas_d, ex_some2, tru_none, tru_bool, tru_int, tru_list, cmp_eq_int, cmp_ne_int, cmp_lt, cmp_le, cmp_gt, cmp_ge, cmp_eq_str, cmp_ne_str, op_add, op_sub, op_mul, op_fdv, op_mod, op_pow, op_shl, op_shr, op_and, op_or, op_xor, op_cat, un_neg, is_none, in_none, in_int, in_str, in_list, blt_len, blt_int, blt_abs, blt_max, blt_min, blt_repr, blt_sum, isi_int_int, isi_int_bool, isi_int_str, isi_str_str, isi_str_int, isi_str_bool, isi_bool_bool, isi_bool_int, isi_none_int, isi_none_str, isi_list_list, isi_list_int, isi_list_str, idx_list, idx_tuple, in2, spI1_at, spD_at, spKD_at, spKD_h, spKD_b, isW_int, isC_int, isN_int, isN_h, isN_b, sp_check_number_at, spK0_at, spK0_h, spK0_b, spK1_at, spK1_h, spK1_b, spK2_at, spK2_h, spK2_b, nk, kS_h, kS_b, l2, hours_bits, bits_hours, List.map_cons, List.map_nil, List.cons_append, List.nil_append, List.replicate_succ, List.replicate_zero, Nat.reduceSub, Nat.reduceAdd, List.getElem?_cons_zero, List.getElem?_cons_succ, List.set_cons_zero, List.set_cons_succ, if_true, if_false, Bool.false_eq_true, decide_eq_true_eq, decide_true, decide_false, Bool.not_true, Bool.not_false, Bool.or_true, Bool.true_or, Bool.or_false, Bool.false_or, exists_eq_left', true_and, and_true, eq_self, List.length_cons, List.length_nil, List.take_length, fin_d, fin_t, Bool.not_eq_true', decide_eq_false_iff_not, and_self, Bool.true_eq_false, reduceCtorEq])
theorem ex_lkc {s1 s2 : ST} {u : EV} {x y : PyData} {f : PyData → PyData → Option PyData} {p : PyData → Prop} (h : look s1 u = some x) : (∃ a b r, look s1 u = some a ∧ look s2 (.d y) = some b ∧ f a b = some r ∧ p r) ↔ ∃ r, f x y = some r ∧ p r := by
  rw [h]; exact ⟨fun ⟨_, _, r, h1, h2, h3, q⟩ => by cases h1; cases h2; exact ⟨r, h3, q⟩, fun ⟨r, h1, q⟩ => ⟨_, _, r, rfl, rfl, h1, q⟩⟩
section
variable {x y z : PyData}
theorem at30 {a s c : Int} : atI (gst a s c) 0 = some (.int a) := rfl
theorem at31 {a s c : Int} : atI (gst a s c) 1 = some (.int s) := rfl
theorem at32 {a s c : Int} : atI (gst a s c) 2 = some (.int c) := rfl
end
theorem sp__law_hash_at {a c : Int} {st Q X} : sp__law_hash [.d (.int a), .d (.int c)] st Q X ↔ ((0 ≤ a ∧ a < 2 ^ 31) ∧ 0 ≤ c ∧ c < 2 ^ 41) ∧ ∀ r : Int, 0 ≤ r → r < 2 ^ 31 → Q (.d (.int r)) st := by
  constructor
  · rintro ⟨_, _, e, p, q⟩
    cases e
    exact ⟨p, q⟩
  · rintro ⟨p, q⟩
    exact ⟨a, c, rfl, p, q⟩
theorem set_same {st : ST} {n : Nat} {l : List PyData} (h : st[n]? = some l) : st.set n l = st := by
  apply List.ext_getElem?
  intro i
  rw [List.getElem?_set]
  split
  · subst i
    have := (List.getElem?_eq_some_iff.mp h).1
    rw [if_pos this, h]
  · rfl
set_option exponentiation.threshold 2000 in
theorem b__law_random : ∀ (es : List EV) (s : ST) (Q : QE) (X : QX), es.length = d__law_random.np → sp__law_random es s Q X → denF T__law_random d__law_random es s Q X := by
  rintro es s Q X hl ⟨n, b, rfl, ⟨p1, p2⟩, a, sd, c, hst, ⟨⟨g1, g2⟩, g3, g4⟩, q⟩
  simp only [T__law_random, d__law_random]
  have hL : look s (.cell n) = some (.list (gst a sd c)) := by simp only [look, hst]; rfl
  walk_at "dn"
  simp only [ex_lkc hL]
  walk_at "dn"
  simp only [at30]
  walk_at "dn"
  have hn0 : n < s.length := (List.getElem?_eq_some_iff.mp hst).1
  by_cases ha : 0 < a
  · rw [if_pos ha]
    refine ⟨p1, ⟨p1, log_sh p2⟩, n, _, _, _, 0, rfl, hst, rfl, rfl, rfl, ?_⟩
    rw [List.take_of_length_le (by simp)]
    exact q (a % b) (a / b) c ⟨Int.emod_nonneg _ (by omega), Int.emod_lt_of_pos _ p1⟩ (by omega) (by omega)
  · rw [if_neg ha]
    have hb := bits_sh p2
    refine ⟨by decide, by omega, by omega, ?_⟩
    refine forGo_ind (fun i env st => ∃ (c' dr : Int) (pl : Option EV), env = [some (.cell n), some (.d (.int b)), some (.d (.int dr)), pl] ∧ st[n]? = some (gst a sd c') ∧ st.length = s.length ∧ (∀ l, st.set n l = s.set n l) ∧ c' = c + i ∧ 0 ≤ dr ∧ dr < 2 ^ (32 * i)) _ ?_ ?_ ⟨c, 0, none, rfl, hst, rfl, fun _ => rfl, by simp, by omega, by simp⟩
    · rintro i x hx env st ⟨c', dr, pl, rfl, h1, h2, h3, rfl, h5, h6⟩ k' e1 e2 e3 hn hc
      obtain ⟨rfl, hi⟩ := rngP_get hx
      refine ⟨_, rfl, ?_⟩
      have hL1 : look st (.cell n) = some (.list (gst a sd (c + i))) := by simp only [look, h1]; rfl
      have hi2 : i < 35 := by omega
      walk_at "dn"
      simp only [ex_lkc hL1]
      walk_at "dn"
      simp only [at32, ex_eq_some, op_add]
      have hL2 : look (st.set n (gst a sd (c + i + 1))) (.cell n) = some (.list (gst a sd (c + i + 1))) := by
        simp only [look]; rw [List.getElem?_set_self (by omega)]; rfl
      refine ⟨n, _, _, 2, 2, rfl, h1, rfl, rfl, rfl, ?_⟩
      show _ ∧ _
      have ht : (2 : Int) ^ (32 * i) ≤ 2 ^ (32 * 35) := by
        have : (2 : Nat) ^ (32 * i) ≤ 2 ^ (32 * 35) := Nat.pow_le_pow_right (by decide) (by omega)
        exact_mod_cast this
      have e0 : List.set (gst a sd (c + i)) 2 (PyData.int (c + i + 1)) = gst a sd (c + i + 1) := rfl
      rw [e0]
      refine ⟨fit 1200 80 (by omega) (by decide) (by decide), ?_⟩
      simp only [ex_lkc hL2]
      walk_at "dn"
      simp only [at31, at32, ex_eq_some]
      rw [sp__law_hash_at]
      refine ⟨⟨⟨g1, g2⟩, by omega, by omega⟩, fun r r1 r2 => ?_⟩
      walk_at "dn"
      refine hn _ _ trivial ⟨c + (i : Int) + 1, _, some (.d (.int (0 + (i : Int)))), rfl, List.getElem?_set_self (by omega), by simp [h2], fun l => by rw [List.set_set]; exact h3 l, by omega, by omega, ?_⟩
      have e5 : (2 : Int) ^ (32 * (i + 1)) = 2 ^ (32 * i) * 4294967296 := by
        rw [Nat.mul_add, Int.pow_add]; rfl
      rw [e5]
      have : (0 : Int) < 2 ^ (32 * i) := Int.pow_pos (by decide)
      omega
    · rintro env st ⟨c', dr, pl, rfl, h1, h2, h3, rfl, h5, h6⟩
      walk_at "dn"
      refine ⟨p1, ?_⟩
      rw [List.take_of_length_le (by omega), ← set_same h1, h3]
      rw [rngP_len] at *
      exact q (dr % b) a _ ⟨Int.emod_nonneg _ (by omega), Int.emod_lt_of_pos _ p1⟩ (by omega) (by omega)
end Gen

namespace Gen
open PySem PySem.Spec PyProof.Rows L2 Mini
local macro_rules
  | `(tactic| walk_at "dn") => `(tactic| simp only [denF, denB, denS, den, denL, denO, denI, denC, DE.of, testOf, boolOf, strict1, strict2, ex_eq_some, ex_ss, ex_di, ex_none, ex_call, ex_look2, ex_look1, ex_tru, some_if, some_map, map_some, looks_nil, looks_d, datas_nil, datas_d, ex_some2, tru_none, tru_bool, tru_int, tru_list, cmp_eq_int, cmp_ne_int, cmp_lt, cmp_le, cmp_gt, cmp_ge, cmp_eq_str, cmp_ne_str, op_add, op_sub, op_mul, op_fdv, op_mod, op_pow, op_shl, op_shr, op_and, op_or, op_xor, op_cat, un_neg, is_none, in_none, in_int, in_str, in_list, blt_len, blt_int, blt_abs, blt_max, blt_min, blt_repr, blt_sum, isi_int_int, isi_int_bool, isi_int_str, isi_str_str, isi_str_int, isi_str_bool, isi_bool_bool, isi_bool_int, isi_none_int, isi_none_str, isi_list_list, isi_list_int, isi_list_str, idx_list, idx_tuple, in2, spI1_at, spD_at, spKD_at, spKD_h, spKD_b, isW_int, isC_int, isN_int, isN_h, isN_b, sp_check_number_at, spK0_at, spK0_h, spK0_b, spK1_at, spK1_h, spK1_b, spK2_at, spK2_h, spK2_b, nk, kS_h, kS_b, l2, hours_bits, bits_hours, List.map_cons, List.map_nil, List.cons_append, List.nil_append, List.replicate_succ, List.replicate_zero, Nat.reduceSub, Nat.reduceAdd, List.getElem?_cons_zero, List.getElem?_cons_succ, List.set_cons_zero, List.set_cons_succ, if_true, if_false, Bool.false_eq_true, decide_eq_true_eq, decide_true, decide_false, Bool.not_true, Bool.not_false, Bool.or_true, Bool.true_or, Bool.or_false, Bool.false_or, exists_eq_left', true_and, and_true, eq_self, List.length_cons, List.length_nil, List.take_length, fin_d, fin_t, Bool.not_eq_true', decide_eq_false_iff_not, and_self, Bool.true_eq_false, reduceCtorEq])
theorem take_set_ {st : ST} {n : Nat} {l : List PyData} : List.take (List.length st) (List.set st n l) = List.set st n l := List.take_of_length_le (by simp)
theorem sp__law_random_at {n : Nat} {b : Int} {st Q X} : sp__law_random [.cell n, .d (.int b)] st Q X ↔ (0 < b ∧ sh b) ∧ drw n st Q 50 fun r => 0 ≤ r ∧ r < b := by
  constructor
  · rintro ⟨_, _, e, p, q⟩
    cases e
    exact ⟨p, q⟩
  · rintro ⟨p, q⟩
    exact ⟨n, b, rfl, p, q⟩
theorem sp__law_number_at {n : Nat} {k : Kd} {b : Int} {st Q X} : sp__law_number [.cell n, .d (.str (kS k)), .d (.int b)] st Q X ↔ (0 < b ∧ b < 2 ^ 900) ∧ drw n st Q 50 (numR k b) := by
  constructor
  · rintro ⟨_, k', _, e, p, q⟩
    simp only [List.cons.injEq, EV.d.injEq, EV.cell.injEq, PyData.str.injEq, PyData.int.injEq, and_true] at e
    obtain ⟨rfl, e1, rfl⟩ := e
    cases kS_inj e1
    exact ⟨p, q⟩
  · rintro ⟨p, q⟩
    exact ⟨n, k, b, rfl, p, q⟩
set_option exponentiation.threshold 2000 in
theorem b__law_number : ∀ (es : List EV) (s : ST) (Q : QE) (X : QX), es.length = d__law_number.np → sp__law_number es s Q X → denF T__law_number d__law_number es s Q X := by
  rintro es s Q X hl ⟨n, k, b, rfl, ⟨p1, p2⟩, a, sd, c, hst, g, q⟩
  simp only [T__law_number, d__law_number]
  cases k
  · walk_at "dn"
    rw [sp__law_random_at]
    refine ⟨fit 1000 1000 (by decide) (by omega) (by decide), ⟨by omega, by unfold sh; omega⟩, a, sd, c, hst, g, fun r a' c' hr h1 h2 => ?_⟩
    walk_at "dn"
    rw [take_set_]
    exact q _ a' c' ⟨by omega, by omega⟩ h1 h2
  · walk_at "dn"
    rw [sp__law_random_at]
    refine ⟨⟨by omega, by unfold sh; omega⟩, a, sd, c, hst, g, fun r a' c' hr h1 h2 => ?_⟩
    walk_at "dn"
    rw [take_set_]
    exact q _ a' c' hr h1 h2
end Gen

namespace Gen
open PySem PySem.Spec PyProof.Rows L2 Mini
local macro_rules
  | `(tactic| walk_at "dn") => `(tactic| simp only [denF, denB, denS, den, denL, denO, denI, denC, DE.of, testOf, boolOf, strict1, strict2, ex_eq_some, ex_ss, ex_di, ex_none, ex_call, ex_look2, ex_look1, ex_tru, some_if, some_map, map_some, looks_nil, looks_d, datas_nil, datas_d, ex_some2, tru_none, tru_bool, tru_int, tru_list, cmp_eq_int, cmp_ne_int, cmp_lt, cmp_le, cmp_gt, cmp_ge, cmp_eq_str, cmp_ne_str, op_add, op_sub, op_mul, op_fdv, op_mod, op_pow, op_shl, op_shr, op_and, op_or, op_xor, op_cat, un_neg, is_none, in_none, in_int, in_str, in_list, blt_len, blt_int, blt_abs, blt_max, blt_min, blt_repr, blt_sum, isi_int_int, isi_int_bool, isi_int_str, isi_str_str, isi_str_int, isi_str_bool, isi_bool_bool, isi_bool_int, isi_none_int, isi_none_str, isi_list_list, isi_list_int, isi_list_str, idx_list, idx_tuple, in2, spI1_at, spD_at, spKD_at, spKD_h, spKD_b, isW_int, isC_int, isN_int, isN_h, isN_b, sp_check_number_at, spK0_at, spK0_h, spK0_b, spK1_at, spK1_h, spK1_b, spK2_at, spK2_h, spK2_b, nk, kS_h, kS_b, l2, hours_bits, bits_hours, List.map_cons, List.map_nil, List.cons_append, List.nil_append, List.replicate_succ, List.replicate_zero, Nat.reduceSub, Nat.reduceAdd, List.getElem?_cons_zero, List.getElem?_cons_succ, List.set_cons_zero, List.set_cons_succ, if_true, if_false, Bool.false_eq_true, decide_eq_true_eq, decide_true, decide_false, Bool.not_true, Bool.not_false, Bool.or_true, Bool.true_or, Bool.or_false, Bool.false_or, exists_eq_left', true_and, and_true, eq_self, List.length_cons, List.length_nil, List.take_length, fin_d, fin_t, Bool.not_eq_true', decide_eq_false_iff_not, and_self, Bool.true_eq_false, reduceCtorEq])
/-! ### numbers of a kind, of at most m bits -/
def ok (k : Kd) (m : Nat) (x : Int) : Prop := nk k x ∧ x.natAbs < 2 ^ m
theorem ok.mono {k : Kd} {m n : Nat} {x : Int} (h : ok k m x) (hm : m ≤ n) : ok k n x := ⟨h.1, Nat.lt_of_lt_of_le h.2 (Nat.pow_le_pow_right (by decide) hm)⟩
theorem ok.sh {k : Kd} {m : Nat} {x : Int} (h : ok k m x) (hm : m ≤ 1000) : sh x := (h.mono hm).2
theorem sx_lt {a b : Int} {m : Nat} (ha : 0 ≤ a) (hb : 0 ≤ b) (h1 : a.natAbs < 2 ^ m) (h2 : b.natAbs < 2 ^ m) : (sx a b).natAbs < 2 ^ m := by
  unfold sx
  rw [Int.natAbs_natCast]
  exact xor_lt (by omega) (by omega)
theorem ok_add {k : Kd} {m : Nat} {a b : Int} (ha : ok k m a) (hb : ok k m b) : ok k (m + 1) (kAdd k a b) := by
  cases k
  · have h1 := ha.2
    have h2 := hb.2
    refine ⟨trivial, ?_⟩
    rw [Nat.pow_succ]
    show (a + b).natAbs < _
    omega
  · exact ⟨Int.natCast_nonneg _, Nat.lt_of_lt_of_le (sx_lt ha.1 hb.1 ha.2 hb.2) (Nat.pow_le_pow_right (by decide) (by omega))⟩
theorem ok_less {k : Kd} {m : Nat} {a b : Int} (ha : ok k m a) (hb : ok k m b) : ok k (m + 1) (kLess k a b) := by
  cases k
  · have h1 := ha.2
    have h2 := hb.2
    refine ⟨trivial, ?_⟩
    rw [Nat.pow_succ]
    show (a - b).natAbs < _
    omega
  · exact ⟨Int.natCast_nonneg _, Nat.lt_of_lt_of_le (sx_lt ha.1 hb.1 ha.2 hb.2) (Nat.pow_le_pow_right (by decide) (by omega))⟩
theorem ok_times {k : Kd} {m n : Nat} {a b : Int} (ha : ok k m a) (hb : ok k n b) : ok k (m + n) (kTimes k a b) := by
  cases k
  · refine ⟨trivial, ?_⟩
    show (a * b).natAbs < _
    rw [Int.natAbs_mul, Nat.pow_add]
    exact Nat.mul_lt_mul'' ha.2 hb.2
  · refine ⟨Int.natCast_nonneg _, ?_⟩
    show ((clm a.toNat b.toNat : Nat) : Int).natAbs < _
    rw [Int.natAbs_natCast]
    have h1 := ha.2
    have h2 := hb.2
    exact clm_lt (by omega) (by omega)
theorem ediv_abs (a b : Int) (h : 1 ≤ b) : (a / b).natAbs ≤ a.natAbs := Int.natAbs_ediv_le_natAbs a b
theorem ok_quo {k : Kd} {m : Nat} {a b : Int} (ha : ok k m a) (hb : 1 ≤ b) : ok k m (kQuo k a b) := by
  cases k
  · exact ⟨trivial, Nat.lt_of_le_of_lt (ediv_abs a b hb) ha.2⟩
  · have h0 : 0 ≤ a := ha.1
    refine ⟨Int.natCast_nonneg _, ?_⟩
    show ((((cdv b.toNat 0 a.toNat).1 : Nat) : Int)).natAbs < _
    rw [Int.natAbs_natCast]
    have h := (cdv_law b.toNat (by omega) _ 0 a.toNat rfl ⟨blen a.toNat, by have := blen_pos (show b.toNat ≠ 0 by omega); omega, Nat.dvd_zero _⟩).2.2
    refine Nat.lt_of_lt_of_le h (Nat.pow_le_pow_right (by decide) ?_)
    have e : blen 0 = 0 := rfl
    rw [e, Nat.zero_max]
    exact blen_le (by have := ha.2; omega)
theorem ok_mod {k : Kd} {m : Nat} {a b : Int} (ha : ok k m a) (hb : 1 ≤ b) (h2 : b.natAbs < 2 ^ m) : ok k m (kMod k a b) := by
  cases k
  · refine ⟨trivial, ?_⟩
    show (a % b).natAbs < _
    have := Int.emod_nonneg a (show b ≠ 0 by omega)
    have := Int.emod_lt_of_pos a (show 0 < b by omega)
    omega
  · have h0 : 0 ≤ a := ha.1
    refine ⟨Int.natCast_nonneg _, ?_⟩
    show ((((cdv b.toNat 0 a.toNat).2 : Nat) : Int)).natAbs < _
    rw [Int.natAbs_natCast]
    have h := (cdv_law b.toNat (by omega) _ 0 a.toNat rfl ⟨blen a.toNat, by have := blen_pos (show b.toNat ≠ 0 by omega); omega, Nat.dvd_zero _⟩).2.1
    have := blen_lt (cdv b.toNat 0 a.toNat).2
    have h3 : blen b.toNat ≤ m := blen_le (by omega)
    exact Nat.lt_of_lt_of_le this (Nat.pow_le_pow_right (by decide) (by omega))
theorem kTimes_comm (k : Kd) (a b : Int) : kTimes k a b = kTimes k b a := by
  cases k
  · exact Int.mul_comm _ _
  · show ((clm _ _ : Nat) : Int) = _
    rw [clm_comm]; rfl
theorem kAdd_less {k : Kd} {a b : Int} (ha : nk k a) (hb : nk k b) : kAdd k (kLess k a b) b = a := by
  cases k
  · show a - b + b = a
    omega
  · have h0 : 0 ≤ a := ha
    show (((((a.toNat ^^^ b.toNat : Nat) : Int)).toNat ^^^ b.toNat : Nat) : Int) = a
    rw [Int.toNat_natCast, Nat.xor_assoc, Nat.xor_self, Nat.xor_zero]
    omega
theorem kTimes_add (k : Kd) (a b c : Int) : kTimes k (kAdd k a b) c = kAdd k (kTimes k a c) (kTimes k b c) := by
  cases k
  · exact Int.add_mul _ _ _
  · show ((clm ((((a.toNat ^^^ b.toNat : Nat) : Int)).toNat) c.toNat : Nat) : Int) = sx ((clm a.toNat c.toNat : Nat) : Int) ((clm b.toNat c.toNat : Nat) : Int)
    unfold sx
    rw [Int.toNat_natCast, Int.toNat_natCast, Int.toNat_natCast, clm_xor_left]
theorem kDiv_law {k : Kd} {a b : Int} (ha : nk k a) (hb : 1 ≤ b) : kAdd k (kTimes k b (kQuo k a b)) (kMod k a b) = a := by
  cases k
  · exact Int.mul_ediv_add_emod a b
  · have h0 : 0 ≤ a := ha
    have h := (cdv_law b.toNat (by omega) _ 0 a.toNat rfl ⟨blen a.toNat, by have := blen_pos (show b.toNat ≠ 0 by omega); omega, Nat.dvd_zero _⟩).1
    show sx ((clm b.toNat (((cdv b.toNat 0 a.toNat).1 : Nat) : Int).toNat : Nat) : Int) (((cdv b.toNat 0 a.toNat).2 : Nat) : Int) = a
    unfold sx
    rw [Int.toNat_natCast, Int.toNat_natCast, Int.toNat_natCast, h, clm_zero, Nat.zero_xor]
    omega
/-! ### what repr asks -/
theorem shown_int_le {a : Int} {m : Nat} (h : a.natAbs < 2 ^ m) (hm : m ≤ 1900) : (PyData.shown (.int a)).length ≤ 1901 := by
  have : (PyData.shown (.int a)).length = (toString a).length := by
    show (Str.ofString (toString a)).length = _
    exact PySem.ofString_length _
  rw [this]
  by_cases h0 : a.natAbs = 0
  · have : a = 0 := by omega
    subst this; decide
  · exact int_text_length_le (k := 1900) (by decide) (by have := (Nat.log2_lt h0).mpr h; omega)
theorem rp_int {a : Int} (h : a.natAbs < 2 ^ 1000) : PyData.showable (.int a) = true ∧ SeqAt.shaped (.int a) = true ∧ (PyData.shown (.int a)).length ≤ line := by
  refine ⟨?_, shp_int a, Nat.le_trans (shown_int_le h (by decide)) (by decide)⟩
  simp only [PyData.showable, decide_eq_true_eq]
  by_cases h0 : a.natAbs = 0
  · rw [h0]; decide
  · have := (Nat.log2_lt h0).mpr h; omega
theorem rp_bool {b : Bool} : PyData.showable (.bool b) = true ∧ SeqAt.shaped (.bool b) = true ∧ (PyData.shown (.bool b)).length ≤ line := by
  refine ⟨rfl, shp_bool b, ?_⟩
  cases b <;> decide
theorem rp_ints {xs : List Int} (h : ∀ x ∈ xs, x.natAbs < 2 ^ 1000) (hl : xs.length ≤ 1000) : PyData.showable (.list (xs.map .int)) = true ∧ SeqAt.shaped (.list (xs.map .int)) = true ∧ (PyData.shown (.list (xs.map .int))).length ≤ line := by
  have key : ∀ ys : List Int, (∀ x ∈ ys, x.natAbs < 2 ^ 1000) → PyData.showableAll (ys.map .int) = true ∧ PyData.canLayAll0 (ys.map .int) = true ∧ PyData.depthAll (ys.map .int) ≤ 1 ∧ ((PyData.shownAll (ys.map .int)).map (·.length)).sum ≤ 1901 * ys.length := by
    intro ys
    induction ys with
    | nil => intro _; exact ⟨rfl, rfl, by decide, by decide⟩
    | cons y ys ih =>
      intro hy
      obtain ⟨i1, i2, i3, i4⟩ := ih fun x hx => hy x (List.mem_cons_of_mem _ hx)
      have h1 := rp_int (hy y (List.mem_cons_self ..))
      have h2 := shown_int_le (hy y (List.mem_cons_self ..)) (by decide)
      refine ⟨?_, ?_, ?_, ?_⟩
      · simp only [List.map_cons, PyData.showableAll, h1.1, i1, Bool.and_self]
      · simp [PyData.canLayAll0, PyData.canLay0, i2]
      · simp [PyData.depthAll, PyData.depth]; omega
      · simp only [List.map_cons, PyData.shownAll, List.sum_cons, List.length_cons]; omega
  obtain ⟨i1, i2, i3, i4⟩ := key xs h
  refine ⟨?_, ?_, ?_⟩
  · simpa only [PyData.showable] using i1
  · simp [SeqAt.shaped, PyData.canLay0, PyData.depth, i2]; omega
  · have e : PyData.shown (.list (xs.map .int)) = listText (PyData.shownAll (xs.map .int)) := by simp only [PyData.shown]
    rw [e]
    have := listText_len_le (PyData.shownAll (xs.map .int))
    rw [PyData.shownAll_length, List.length_map] at this
    have hz : line = 16777216 := rfl
    omega
end Gen

namespace Eud
open Gen

/-! ### words without carrying: a ring -/
theorem clm_assoc (a b c : Nat) : clm (clm a b) c = clm a (clm b c) := by
  induction c using Nat.strongRecOn with
  | _ c ih =>
    by_cases h : c = 0
    · subst h; simp [clm_zero]
    · rw [clm_step _ c, clm_step b c, clm_xor_right, ih (c / 2) (by omega)]
      have e : clm a (2 * clm b (c / 2)) = 2 * clm a (clm b (c / 2)) := by rw [clm_comm, clm_two_left, clm_comm]
      rw [e]
      congr 1
      split
      · rfl
      · rw [clm_zero]
theorem clm_one (a : Nat) : clm a 1 = a := by rw [clm_comm, clm_one_left]
structure Wo where
  n : Nat
theorem Wo.ext {a b : Wo} (h : a.n = b.n) : a = b := by cases a; cases b; cases h; rfl
instance : Add Wo := ⟨fun a b => ⟨a.n ^^^ b.n⟩⟩
instance : Mul Wo := ⟨fun a b => ⟨clm a.n b.n⟩⟩
instance : Neg Wo := ⟨fun a => a⟩
instance : Sub Wo := ⟨fun a b => ⟨a.n ^^^ b.n⟩⟩
def Wo.ofNat (k : Nat) : Wo := ⟨k % 2⟩
instance (k : Nat) : OfNat Wo k := ⟨Wo.ofNat k⟩
instance : NatCast Wo := ⟨Wo.ofNat⟩
instance : IntCast Wo := ⟨fun i => Wo.ofNat i.natAbs⟩
instance : SMul Nat Wo := ⟨fun k a => Wo.ofNat k * a⟩
instance : SMul Int Wo := ⟨fun k a => Wo.ofNat k.natAbs * a⟩
def Wo.pow (a : Wo) : Nat → Wo
  | 0 => 1
  | k + 1 => Wo.pow a k * a
instance : HPow Wo Nat Wo := ⟨Wo.pow⟩
theorem wadd (a b : Wo) : a + b = ⟨a.n ^^^ b.n⟩ := rfl
theorem wmul (a b : Wo) : a * b = ⟨clm a.n b.n⟩ := rfl
theorem wofn (k : Nat) : (Wo.ofNat k).n = k % 2 := rfl
theorem wofs (k : Nat) : Wo.ofNat (k + 1) = Wo.ofNat k + 1 := by
  apply Wo.ext
  show (k + 1) % 2 = k % 2 ^^^ 1 % 2
  have : k % 2 = 0 ∨ k % 2 = 1 := by omega
  rcases this with h | h
  · rw [h, show (k + 1) % 2 = 1 by omega]; rfl
  · rw [h, show (k + 1) % 2 = 0 by omega]; rfl
instance : Lean.Grind.CommRing Wo where
  add_zero a := Wo.ext (Nat.xor_zero _)
  add_comm a b := Wo.ext (Nat.xor_comm _ _)
  add_assoc a b c := Wo.ext (Nat.xor_assoc _ _ _)
  mul_assoc a b c := Wo.ext (clm_assoc _ _ _)
  mul_one a := Wo.ext (clm_one _)
  one_mul a := Wo.ext (clm_one_left _)
  left_distrib a b c := Wo.ext (clm_xor_right _ _ _)
  right_distrib a b c := Wo.ext (clm_xor_left _ _ _)
  zero_mul a := Wo.ext (clm_zero_left _)
  mul_zero a := Wo.ext (clm_zero _)
  pow_zero a := rfl
  pow_succ a k := rfl
  neg_add_cancel a := Wo.ext (Nat.xor_self _)
  sub_eq_add_neg a b := rfl
  mul_comm a b := Wo.ext (clm_comm _ _)
  ofNat_succ k := wofs k
  ofNat_eq_natCast k := rfl
  nsmul_eq_natCast_mul k a := rfl
  zsmul_natCast_eq_nsmul k a := rfl
  intCast_neg i := by
    show Wo.ofNat (-i).natAbs = Wo.ofNat i.natAbs
    rw [Int.natAbs_neg]
  intCast_ofNat k := rfl
  neg_zsmul i a := by
    show Wo.ofNat (-i).natAbs * a = Wo.ofNat i.natAbs * a
    rw [Int.natAbs_neg]
example (a b c : Wo) : a * (b + c) * a = c * a * a + a * b * a := by grind
end Eud

namespace Eud
open Gen
/-! ### rings with a division: numbers and words at once -/
class Eu (α : Type) extends Lean.Grind.CommRing α where
  sz : α → Nat
  quo : α → α → α
  rem : α → α → α
  cn : α → Prop
  deq : DecidableEq α
  dv : ∀ a b : α, b ≠ 0 → b * quo a b + rem a b = a
  sm : ∀ a b : α, b ≠ 0 → sz (rem a b) < sz b
  nzd : ∀ a b : α, a * b = 0 → a = 0 ∨ b = 0
  cn0 : cn 0
  cn1 : cn 1
  cnm : ∀ a b : α, cn a → cn b → cn (a * b)
  cnr : ∀ a b : α, b ≠ 0 → cn (rem a b)
  cnq : ∀ a b : α, cn a → cn b → b ≠ 0 → cn (quo a b)
  asc : ∀ a b c d : α, cn a → cn b → b = a * c → a = b * d → a = b
  sl : ∀ b c : α, sz (b * c) < sz b → b * c = 0
  ntr : (1 : α) ≠ 0
instance {α : Type} [Eu α] : DecidableEq α := Eu.deq
section
variable {α : Type} [Eu α]
open Eu
def dvd (a b : α) : Prop := ∃ c, b = a * c
theorem dvd_refl (a : α) : dvd a a := ⟨1, by grind⟩
theorem dvd_zero (a : α) : dvd a 0 := ⟨0, by grind⟩
theorem one_dvd (a : α) : dvd 1 a := ⟨a, by grind⟩
theorem zero_dvd {a : α} (h : dvd 0 a) : a = 0 := by obtain ⟨c, rfl⟩ := h; grind
theorem dvd.trans {a b c : α} (h : dvd a b) (k : dvd b c) : dvd a c := by
  obtain ⟨x, rfl⟩ := h; obtain ⟨y, rfl⟩ := k; exact ⟨x * y, by grind⟩
theorem dvd.add {a b c : α} (h : dvd a b) (k : dvd a c) : dvd a (b + c) := by
  obtain ⟨x, rfl⟩ := h; obtain ⟨y, rfl⟩ := k; exact ⟨x + y, by grind⟩
theorem dvd.sub {a b c : α} (h : dvd a b) (k : dvd a c) : dvd a (b - c) := by
  obtain ⟨x, rfl⟩ := h; obtain ⟨y, rfl⟩ := k; exact ⟨x - y, by grind⟩
theorem dvd.neg {a b : α} (h : dvd a b) : dvd a (-b) := by
  obtain ⟨x, rfl⟩ := h; exact ⟨-x, by grind⟩
theorem dvd.mul {a b : α} (h : dvd a b) (c : α) : dvd a (b * c) := by
  obtain ⟨x, rfl⟩ := h; exact ⟨x * c, by grind⟩
theorem dvd.lmul {a b : α} (h : dvd a b) (c : α) : dvd a (c * b) := by
  obtain ⟨x, rfl⟩ := h; exact ⟨x * c, by grind⟩
theorem dvd_mul (a b : α) : dvd a (a * b) := ⟨b, rfl⟩
theorem dvd_mul' (a b : α) : dvd a (b * a) := ⟨b, by grind⟩
theorem dvd.mm {a b : α} (h : dvd a b) (c : α) : dvd (c * a) (c * b) := by
  obtain ⟨x, rfl⟩ := h; exact ⟨x, by grind⟩
theorem mul_cancel {a b c : α} (h : a ≠ 0) (e : a * b = a * c) : b = c := by
  have : a * (b - c) = 0 := by grind
  rcases nzd _ _ this with h1 | h1
  · exact absurd h1 h
  · grind
theorem dvd_of_mm {a b c : α} (hc : c ≠ 0) (h : dvd (c * a) (c * b)) : dvd a b := by
  obtain ⟨x, hx⟩ := h
  exact ⟨x, mul_cancel hc (by grind)⟩
theorem asc' {a b : α} (h1 : cn a) (h2 : cn b) (h3 : dvd a b) (h4 : dvd b a) : a = b := by
  obtain ⟨c, hc⟩ := h3; obtain ⟨d, hd⟩ := h4
  exact asc a b c d h1 h2 hc hd
theorem sz_pos {b : α} (h : b ≠ 0) : 0 < sz b := Nat.lt_of_le_of_lt (Nat.zero_le _) (sm 0 b h)
/-- the rest is nothing exactly if it divides -/
theorem rem_zero {a b : α} (h : b ≠ 0) : rem a b = 0 ↔ dvd b a := by
  constructor
  · intro e
    refine ⟨quo a b, ?_⟩
    have := dv a b h
    rw [e] at this
    grind
  · rintro ⟨c, hc⟩
    have h1 := dv a b h
    have h2 := sm a b h
    have h3 := cnr a b h
    have e : rem a b = b * (c - quo a b) := by grind
    rw [e]
    exact sl b _ (by rw [← e]; exact h2)
theorem quo_of {a b c : α} (h : b ≠ 0) (e : a = b * c) : quo a b = c := by
  have h1 := dv a b h
  rw [(rem_zero h).mpr ⟨c, e⟩] at h1
  exact mul_cancel h (by grind)
/-- the greatest divisor, as the program's loop finds it -/
def eg (a b : α) : α := if h : b = 0 then a else eg b (rem a b)
termination_by sz b
decreasing_by exact sm a b h
theorem eg_zero (a : α) : eg a 0 = a := by rw [eg]; simp
theorem eg_go {a b : α} (h : b ≠ 0) : eg a b = eg b (rem a b) := by rw [eg]; simp [h]
theorem eg_law : ∀ (n : Nat) (a b : α), sz b = n → dvd (eg a b) a ∧ dvd (eg a b) b ∧ ∃ s t, eg a b = a * s + b * t := by
  intro n
  induction n using Nat.strongRecOn with
  | _ n ih =>
    intro a b hb
    by_cases h : b = 0
    · subst h
      rw [eg_zero]
      exact ⟨dvd_refl a, dvd_zero a, 1, 0, by grind⟩
    · rw [eg_go h]
      obtain ⟨h1, h2, s, t, h3⟩ := ih (sz (rem a b)) (by have := sm a b h; omega) b (rem a b) rfl
      have d := dv a b h
      refine ⟨?_, h1, t, s - quo a b * t, by grind⟩
      have h4 : dvd (eg b (rem a b)) (b * quo a b + rem a b) := (h1.mul _).add h2
      rw [d] at h4
      exact h4
theorem eg_left (a b : α) : dvd (eg a b) a := (eg_law _ a b rfl).1
theorem eg_right (a b : α) : dvd (eg a b) b := (eg_law _ a b rfl).2.1
theorem eg_bez (a b : α) : ∃ s t, eg a b = a * s + b * t := (eg_law _ a b rfl).2.2
theorem eg_max {a b d : α} (h : dvd d a) (k : dvd d b) : dvd d (eg a b) := by
  obtain ⟨s, t, e⟩ := eg_bez a b
  rw [e]
  exact (h.mul s).add (k.mul t)
theorem eg_cn : ∀ (n : Nat) (a b : α), sz b = n → cn a → cn b → cn (eg a b) := by
  intro n
  induction n using Nat.strongRecOn with
  | _ n ih =>
    intro a b hb ha hb'
    by_cases h : b = 0
    · subst h; rw [eg_zero]; exact ha
    · rw [eg_go h]
      exact ih (sz (rem a b)) (by have := sm a b h; omega) b (rem a b) rfl hb' (cnr a b h)
theorem cn_eg {a b : α} (ha : cn a) (hb : cn b) : cn (eg a b) := eg_cn _ a b rfl ha hb
theorem eg_eq_zero {a b : α} : eg a b = 0 ↔ a = 0 ∧ b = 0 := by
  constructor
  · intro h
    have h1 := eg_left a b
    have h2 := eg_right a b
    rw [h] at h1 h2
    exact ⟨zero_dvd h1, zero_dvd h2⟩
  · rintro ⟨rfl, rfl⟩; exact eg_zero 0
theorem eg_comm {a b : α} (ha : cn a) (hb : cn b) : eg a b = eg b a := asc' (cn_eg ha hb) (cn_eg hb ha) (eg_max (eg_right a b) (eg_left a b)) (eg_max (eg_right b a) (eg_left b a))
/-- the least multiple -/
def lc (a b : α) : α := if a = 0 ∨ b = 0 then 0 else quo a (eg a b) * b
theorem lc_law {a b : α} : eg a b * lc a b = a * b := by
  unfold lc
  by_cases h : a = 0 ∨ b = 0
  · rw [if_pos h]
    rcases h with rfl | rfl <;> grind
  · rw [if_neg h]
    have hg : eg a b ≠ 0 := fun e => h (.inl (eg_eq_zero.mp e).1)
    obtain ⟨c, hc⟩ := eg_left a b
    rw [quo_of hg hc]
    grind
theorem lc_left {a b : α} : dvd a (lc a b) := by
  by_cases h : a = 0 ∨ b = 0
  · unfold lc; rw [if_pos h]; exact dvd_zero a
  · have hg : eg a b ≠ 0 := fun e => h (.inl (eg_eq_zero.mp e).1)
    obtain ⟨c, hc⟩ := eg_right a b
    refine ⟨c, mul_cancel hg ?_⟩
    rw [lc_law]
    grind
theorem lc_right {a b : α} : dvd b (lc a b) := by
  unfold lc
  by_cases h : a = 0 ∨ b = 0
  · rw [if_pos h]; exact dvd_zero b
  · rw [if_neg h]; exact dvd_mul' _ _
theorem lc_min {a b m : α} (h : dvd a m) (k : dvd b m) : dvd (lc a b) m := by
  by_cases z : a = 0 ∨ b = 0
  · have hm : m = 0 := by
      rcases z with rfl | rfl
      · exact zero_dvd h
      · exact zero_dvd k
    rw [hm]; exact dvd_zero _
  · have hg : eg a b ≠ 0 := fun e => z (.inl (eg_eq_zero.mp e).1)
    obtain ⟨s, t, e⟩ := eg_bez a b
    refine dvd_of_mm hg ?_
    rw [lc_law]
    obtain ⟨x, hx⟩ := h
    obtain ⟨y, hy⟩ := k
    have : eg a b * m = a * b * (y * s + x * t) := by
      calc eg a b * m = (a * s + b * t) * m := by rw [← e]
        _ = a * s * m + b * t * m := by grind
        _ = a * s * (b * y) + b * t * (a * x) := by rw [← hx, ← hy]
        _ = _ := by grind
    rw [this]
    exact dvd_mul _ _
theorem cn_lc {a b : α} (ha : cn a) (hb : cn b) : cn (lc a b) := by
  unfold lc
  by_cases z : a = 0 ∨ b = 0
  · rw [if_pos z]; exact cn0
  · rw [if_neg z]
    have hg : eg a b ≠ 0 := fun e => z (.inl (eg_eq_zero.mp e).1)
    exact cnm _ _ (cnq _ _ ha (cn_eg ha hb) hg) hb
theorem lc_comm {a b : α} (ha : cn a) (hb : cn b) : lc a b = lc b a := asc' (cn_lc ha hb) (cn_lc hb ha) (lc_min lc_right lc_left) (lc_min lc_right lc_left)
theorem eg_assoc {a b c : α} (ha : cn a) (hb : cn b) (hc : cn c) : eg (eg a b) c = eg a (eg b c) := by
  refine asc' (cn_eg (cn_eg ha hb) hc) (cn_eg ha (cn_eg hb hc)) ?_ ?_
  · exact eg_max ((eg_left _ _).trans (eg_left _ _)) (eg_max ((eg_left _ _).trans (eg_right _ _)) (eg_right _ _))
  · exact eg_max (eg_max (eg_left _ _) ((eg_right _ _).trans (eg_left _ _))) ((eg_right _ _).trans (eg_right _ _))
theorem lc_assoc {a b c : α} (ha : cn a) (hb : cn b) (hc : cn c) : lc (lc a b) c = lc a (lc b c) := by
  refine asc' (cn_lc (cn_lc ha hb) hc) (cn_lc ha (cn_lc hb hc)) ?_ ?_
  · exact lc_min (lc_min lc_left (lc_left.trans lc_right)) (lc_right.trans lc_right)
  · exact lc_min (lc_left.trans lc_left) (lc_min (lc_right.trans lc_left) lc_right)
/-- two rests come together exactly if their difference is a multiple of the greatest divisor -/
theorem met_iff {b c x y : α} : (∃ v, dvd b (v - x) ∧ dvd c (v - y)) ↔ dvd (eg b c) (y - x) := by
  constructor
  · rintro ⟨v, h1, h2⟩
    have : y - x = (v - x) - (v - y) := by grind
    rw [this]
    exact ((eg_left b c).trans h1).sub ((eg_right b c).trans h2)
  · rintro ⟨k, hk⟩
    obtain ⟨s, t, e⟩ := eg_bez b c
    refine ⟨x + b * (s * k), ⟨s * k, by grind⟩, ⟨-(t * k), ?_⟩⟩
    have : y = x + eg b c * k := by grind
    rw [this, e]
    grind
theorem met_all {b c x y v w : α} (h1 : dvd b (v - x)) (h2 : dvd c (v - y)) : (dvd b (w - x) ∧ dvd c (w - y)) ↔ dvd (lc b c) (w - v) := by
  constructor
  · rintro ⟨h3, h4⟩
    refine lc_min ?_ ?_
    · have : w - v = (w - x) - (v - x) := by grind
      rw [this]; exact h3.sub h1
    · have : w - v = (w - y) - (v - y) := by grind
      rw [this]; exact h4.sub h2
  · intro h
    refine ⟨?_, ?_⟩
    · have : w - x = (w - v) + (v - x) := by grind
      rw [this]; exact (lc_left.trans h).add h1
    · have : w - y = (w - v) + (v - y) := by grind
      rw [this]; exact (lc_right.trans h).add h2
end
end Eud

namespace Eud
open Gen
section
variable {α : Type} [Eu α]
open Eu
/-- the first number of a paper, as the program's loop finds it -/
def bz (l r h t : α) : α := if z : r = 0 then h else bz r (rem l r) t (h - quo l r * t)
termination_by sz r
decreasing_by exact sm l r z
theorem bz_zero (l h t : α) : bz l 0 h t = h := by rw [bz]; simp
theorem bz_go {l r h t : α} (z : r ≠ 0) : bz l r h t = bz r (rem l r) t (h - quo l r * t) := by rw [bz]; simp [z]
theorem bz_law (a b : α) : ∀ (n : Nat) (l r h t : α), sz r = n → dvd b (l - a * h) → dvd b (r - a * t) → dvd b (eg l r - a * bz l r h t) := by
  intro n
  induction n using Nat.strongRecOn with
  | _ n ih =>
    intro l r h t hr h1 h2
    by_cases z : r = 0
    · subst z; rw [eg_zero, bz_zero]; exact h1
    · rw [eg_go z, bz_go z]
      refine ih (sz (rem l r)) (by have := sm l r z; omega) _ _ _ _ rfl h2 ?_
      have d := dv l r z
      have : rem l r - a * (h - quo l r * t) = (l - a * h) - (r - a * t) * quo l r := by grind
      rw [this]
      exact h1.sub (h2.mul _)
theorem bz_bez (a b : α) : dvd b (eg a b - a * bz a b 1 0) := bz_law a b _ a b 1 0 rfl ⟨0, by grind⟩ ⟨1, by grind⟩
theorem eg_mul {x a b : α} (hx : cn x) (ha : cn a) (hb : cn b) : eg (x * a) (x * b) = x * eg a b := by
  refine asc' (cn_eg (cnm _ _ hx ha) (cnm _ _ hx hb)) (cnm _ _ hx (cn_eg ha hb)) ?_ (eg_max ((eg_left a b).mm x) ((eg_right a b).mm x))
  obtain ⟨s, t, e⟩ := eg_bez a b
  have : x * eg a b = x * a * s + x * b * t := by rw [e]; grind
  rw [this]
  exact ((eg_left _ _).mul s).add ((eg_right _ _).mul t)
/-- divisors and multiples go over each other -/
theorem eg_lc {a b c : α} (ha : cn a) (hb : cn b) (hc : cn c) : eg a (lc b c) = lc (eg a b) (eg a c) := by
  refine asc' (cn_eg ha (cn_lc hb hc)) (cn_lc (cn_eg ha hb) (cn_eg ha hc)) ?_ ?_
  · -- x the left side
    have key : ∀ x : α, cn x → dvd x (lc b c) → dvd x (lc (eg x b) (eg x c)) := by
      intro x hx h
      by_cases z : eg (eg x b) (eg x c) = 0
      · have h1 := eg_eq_zero.mp z
        have h2 := eg_eq_zero.mp h1.1
        have h3 := eg_eq_zero.mp h1.2
        rw [h2.1]
        have : lc (eg (0 : α) b) (eg 0 c) = 0 := by
          have := h1.1
          rw [h2.1] at this
          unfold lc
          rw [if_pos (.inl this)]
        rw [this]; exact dvd_refl 0
      · refine dvd_of_mm z ?_
        rw [lc_law]
        -- gcd (x, b, c) * x divides gcd(x, b) * gcd(x, c)
        obtain ⟨s1, t1, e1⟩ := eg_bez x b
        obtain ⟨s2, t2, e2⟩ := eg_bez x c
        have g1 : dvd (eg (eg x b) (eg x c)) x := (eg_left _ _).trans (eg_left _ _)
        have g2 : dvd (eg (eg x b) (eg x c)) b := (eg_left _ _).trans (eg_right _ _)
        have g3 : dvd (eg (eg x b) (eg x c)) c := (eg_right _ _).trans (eg_right _ _)
        have gbc : dvd (eg (eg x b) (eg x c) * x) (b * c) := by
          have h1 : dvd (eg (eg x b) (eg x c) * x) (eg b c * x) := by
            obtain ⟨k, hk⟩ := eg_max g2 g3
            exact ⟨k, by rw [hk]; grind⟩
          refine h1.trans ?_
          obtain ⟨k, hk⟩ := h
          refine ⟨k, ?_⟩
          rw [← lc_law, hk]; grind
        have m1 : ∀ u : α, dvd (eg (eg x b) (eg x c)) u → dvd (eg (eg x b) (eg x c) * x) (x * u) := by
          rintro u ⟨k, hk⟩
          exact ⟨k, by rw [hk]; grind⟩
        have : eg x b * eg x c = x * x * (s1 * s2) + x * b * (t1 * s2) + x * c * (s1 * t2) + b * c * (t1 * t2) := by
          calc eg x b * eg x c = (x * s1 + b * t1) * (x * s2 + c * t2) := by rw [← e1, ← e2]
            _ = _ := by grind
        rw [this]
        exact ((((m1 x g1).mul _).add ((m1 b g2).mul _)).add ((m1 c g3).mul _)).add (gbc.mul _)
    have h1 := key (eg a (lc b c)) (cn_eg ha (cn_lc hb hc)) (eg_right _ _)
    refine h1.trans (lc_min ?_ ?_)
    · refine dvd.trans ?_ lc_left
      exact eg_max ((eg_left _ _).trans (eg_left _ _)) (eg_right _ _)
    · refine dvd.trans ?_ lc_right
      exact eg_max ((eg_left _ _).trans (eg_left _ _)) (eg_right _ _)
  · exact lc_min (eg_max (eg_left _ _) ((eg_right _ _).trans lc_left)) (eg_max (eg_left _ _) ((eg_right _ _).trans lc_right))
theorem eg_abs {a b : α} (ha : cn a) (hb : cn b) : eg a (lc a b) = a := asc' (cn_eg ha (cn_lc ha hb)) ha (eg_left _ _) (eg_max (dvd_refl _) lc_left)
theorem lc_abs {a b : α} (ha : cn a) (hb : cn b) : lc a (eg a b) = a := asc' (cn_lc ha (cn_eg ha hb)) ha (lc_min (dvd_refl _) (eg_left _ _)) lc_left
theorem lc_eg {a b c : α} (ha : cn a) (hb : cn b) (hc : cn c) : lc a (eg b c) = eg (lc a b) (lc a c) := by
  -- eg (lc a b) (lc a c) = lc (eg (lc a b) a) (eg (lc a b) c) = lc a (eg (lc a b) c) = lc a (lc (eg c a) (eg c b))
  have hab := cn_lc ha hb
  rw [eg_lc hab ha hc, eg_comm hab ha, eg_abs ha hb, eg_comm hab hc, eg_lc hc ha hb, ← lc_assoc ha (cn_eg hc ha) (cn_eg hc hb), eg_comm hc ha, lc_abs ha hc, eg_comm hc hb]
end
/-! ### the two -/
instance : Eu Int where
  sz := Int.natAbs
  quo a b := a / b
  rem a b := a % b
  cn a := 0 ≤ a
  deq := inferInstance
  dv a b _ := Int.mul_ediv_add_emod a b
  sm a b h := by
    have h1 := Int.emod_nonneg a h
    by_cases hb : 0 < b
    · have h2 := Int.emod_lt_of_pos a hb
      omega
    · have h2 := Int.emod_lt_of_pos a (show 0 < -b by omega)
      rw [Int.emod_neg] at h2
      omega
  nzd a b h := Int.mul_eq_zero.mp h
  cn0 := by decide
  cn1 := by decide
  cnm a b := Int.mul_nonneg
  cnr a b h := Int.emod_nonneg a h
  cnq a b ha hb h := Int.ediv_nonneg ha hb
  asc a b c d ha hb h1 h2 := Int.dvd_antisymm ha hb ⟨c, h1⟩ ⟨d, h2⟩
  sl b c h := by
    rw [Int.natAbs_mul] at h
    by_cases hc : c = 0
    · rw [hc, Int.mul_zero]
    · exfalso
      have : 1 ≤ c.natAbs := by omega
      have : b.natAbs * 1 ≤ b.natAbs * c.natAbs := Nat.mul_le_mul_left _ this
      omega
  ntr := by decide
theorem blen_two {x : Nat} (h : x ≠ 0) : blen (2 * x) = blen x + 1 := by
  have := blen_shl (a := x) (n := 1) h
  rw [Nat.pow_one, Nat.mul_comm] at this
  exact this
theorem blen_xor_big {a b : Nat} (h : blen a < blen b) : blen (a ^^^ b) = blen b := by
  have h1 : blen (a ^^^ b) ≤ blen b := blen_xor_le (by omega) (by omega)
  have h2 : blen b ≤ max (blen a) (blen (a ^^^ b)) := by
    have : blen (a ^^^ (a ^^^ b)) ≤ max (blen a) (blen (a ^^^ b)) := blen_xor_le (Nat.le_max_left _ _) (Nat.le_max_right _ _)
    rw [← Nat.xor_assoc, Nat.xor_self, Nat.zero_xor] at this
    exact this
  omega
theorem blen_zero : blen 0 = 0 := rfl
theorem blen_eq_zero {a : Nat} : blen a = 0 ↔ a = 0 := by
  constructor
  · intro h
    by_cases z : a = 0
    · exact z
    · have := blen_pos z; omega
  · rintro rfl; rfl
theorem blen_clm {a b : Nat} (ha : a ≠ 0) (hb : b ≠ 0) : blen (clm a b) + 1 = blen a + blen b := by
  induction b using Nat.strongRecOn with
  | _ b ih =>
    by_cases h1 : b = 1
    · subst h1
      rw [clm_one]
      have : blen 1 = 1 := by decide
      omega
    · have h2 : b / 2 ≠ 0 := by omega
      have i := ih (b / 2) (by omega) h2
      have hc : clm a (b / 2) ≠ 0 := by
        intro e
        rw [e, blen_zero] at i
        have := blen_pos ha
        have := blen_pos h2
        omega
      have e2 := blen_two hc
      have eb : blen b = blen (b / 2) + 1 := by
        conv => lhs; rw [bit_split b]
        have e3 := blen_two h2
        have h3 := blen_pos h2
        rw [blen_xor_big, e3]
        split
        · have : blen 1 = 1 := by decide
          omega
        · rw [blen_zero]; omega
      rw [clm_step, blen_xor_big, e2]
      · omega
      · have h4 := blen_pos ha
        have h5 := blen_pos h2
        split
        · omega
        · rw [blen_zero]; omega
instance : Eu Wo where
  sz a := blen a.n
  quo a b := ⟨(cdv b.n 0 a.n).1⟩
  rem a b := ⟨(cdv b.n 0 a.n).2⟩
  cn _ := True
  deq a b := if h : a.n = b.n then isTrue (Wo.ext h) else isFalse fun e => h (by rw [e])
  dv a b hb := by
    have hb' : b.n ≠ 0 := fun e => hb (Wo.ext e)
    have h := (cdv_law b.n hb' _ 0 a.n rfl ⟨blen a.n, by have := blen_pos hb'; omega, Nat.dvd_zero _⟩).1
    rw [clm_zero, Nat.zero_xor] at h
    exact Wo.ext h
  sm a b hb := by
    have hb' : b.n ≠ 0 := fun e => hb (Wo.ext e)
    exact (cdv_law b.n hb' _ 0 a.n rfl ⟨blen a.n, by have := blen_pos hb'; omega, Nat.dvd_zero _⟩).2.1
  nzd a b h := by
    by_cases ha : a.n = 0
    · exact .inl (Wo.ext ha)
    · by_cases hb : b.n = 0
      · exact .inr (Wo.ext hb)
      · exfalso
        have := blen_clm ha hb
        have e : clm a.n b.n = 0 := congrArg Wo.n h
        have h1 := blen_pos ha
        have h2 := blen_pos hb
        rw [e, blen_zero] at this
        omega
  cn0 := trivial
  cn1 := trivial
  cnm _ _ _ _ := trivial
  cnr _ _ _ := trivial
  cnq _ _ _ _ _ := trivial
  asc a b c d _ _ h1 h2 := by
    have e1 : b.n = clm a.n c.n := congrArg Wo.n h1
    have e2 : a.n = clm b.n d.n := congrArg Wo.n h2
    by_cases ha : a.n = 0
    · rw [ha, clm_zero_left] at e1
      exact Wo.ext (by rw [ha, e1])
    · have hb : b.n ≠ 0 := by
        intro e; rw [e, clm_zero_left] at e2; exact ha e2
      have hc : c.n ≠ 0 := by
        intro e; rw [e, clm_zero] at e1; exact hb e1
      have hd : d.n ≠ 0 := by
        intro e; rw [e, clm_zero] at e2; exact ha e2
      have f1 := blen_clm ha hc
      have f2 := blen_clm hb hd
      rw [← e1] at f1
      rw [← e2] at f2
      have p1 := blen_pos hc
      have p2 := blen_pos hd
      have hc1 : blen c.n ≤ 1 := by omega
      have : c.n < 2 ^ 1 := blen_le_iff.mp hc1
      have hcn : c.n = 1 := by omega
      rw [hcn, clm_one] at e1
      exact Wo.ext e1.symm
  sl b c h := by
    by_cases hb : b.n = 0
    · exact Wo.ext (show clm b.n c.n = 0 by rw [hb, clm_zero_left])
    · by_cases hc : c.n = 0
      · exact Wo.ext (show clm b.n c.n = 0 by rw [hc, clm_zero])
      · exfalso
        have h' : blen (clm b.n c.n) < blen b.n := h
        have := blen_clm hb hc
        have := blen_pos hc
        omega
  ntr h := by
    have : (1 : Nat) = 0 := congrArg Wo.n h
    omega
end Eud

namespace Eud
open Gen
section
variable {α : Type} [Eu α]
open Eu
/-- rests that agree two by two have a common number; the solutions are one rest -/
theorem helly : ∀ l : List (α × α), (∀ t ∈ l, cn t.2) → (∀ t ∈ l, ∀ u ∈ l, ∃ v, dvd t.2 (v - t.1) ∧ dvd u.2 (v - u.1)) →
    ∃ x m, cn m ∧ (∀ v, (∀ t ∈ l, dvd t.2 (v - t.1)) ↔ dvd m (v - x)) ∧ ∀ d, cn d → ∀ z, (∀ t ∈ l, dvd (eg t.2 d) z) → dvd (eg m d) z
  | [], _, _ => ⟨0, 1, cn1, fun v => ⟨fun _ => one_dvd _, fun _ t h => nomatch h⟩, fun d _ z _ => (eg_left (1 : α) d).trans (one_dvd z)⟩
  | t :: l, hc, hp => by
    obtain ⟨x, m, hm, hv, hg⟩ := helly l (fun u hu => hc u (List.mem_cons_of_mem _ hu)) fun a ha b hb => hp a (List.mem_cons_of_mem _ ha) b (List.mem_cons_of_mem _ hb)
    have ct := hc t (List.mem_cons_self ..)
    have hx : ∀ u ∈ l, dvd u.2 (x - u.1) := (hv x).mpr ⟨0, by grind⟩
    have key : dvd (eg m t.2) (t.1 - x) := by
      refine hg t.2 ct _ fun u hu => ?_
      have h1 : dvd (eg u.2 t.2) (t.1 - u.1) := met_iff.mp (hp u (List.mem_cons_of_mem _ hu) t (List.mem_cons_self ..))
      have h2 : dvd (eg u.2 t.2) (x - u.1) := (eg_left _ _).trans (hx u hu)
      have := h1.sub h2
      have e : t.1 - u.1 - (x - u.1) = t.1 - x := by grind
      rwa [e] at this
    obtain ⟨v, h1, h2⟩ := met_iff.mpr key
    refine ⟨v, lc m t.2, cn_lc hm ct, fun w => ?_, fun d hd z hz => ?_⟩
    · rw [← met_all h1 h2, ← hv w]
      constructor
      · intro h
        exact ⟨fun u hu => h u (List.mem_cons_of_mem _ hu), h t (List.mem_cons_self ..)⟩
      · rintro ⟨h3, h4⟩ u hu
        rcases List.mem_cons.mp hu with rfl | hu
        · exact h4
        · exact h3 u hu
    · rw [eg_comm (cn_lc hm ct) hd, eg_lc hd hm ct]
      refine lc_min ?_ ?_
      · rw [eg_comm hd hm]
        exact hg d hd z fun u hu => hz u (List.mem_cons_of_mem _ hu)
      · rw [eg_comm hd ct]
        exact hz t (List.mem_cons_self ..)
end
end Eud

namespace Eud
open Gen
/-! ### the program's two kinds as rings -/
def kGcd : Kd → Int → Int → Int
  | .h, a, b => eg a b
  | .b, a, b => ((eg (⟨a.toNat⟩ : Wo) ⟨b.toNat⟩).n : Int)
def kLcm : Kd → Int → Int → Int
  | .h, a, b => lc a b
  | .b, a, b => ((lc (⟨a.toNat⟩ : Wo) ⟨b.toNat⟩).n : Int)
def kBz : Kd → Int → Int → Int → Int → Int
  | .h, l, r, x, t => bz l r x t
  | .b, l, r, x, t => ((bz (⟨l.toNat⟩ : Wo) ⟨r.toNat⟩ ⟨x.toNat⟩ ⟨t.toNat⟩).n : Int)
def kDvd : Kd → Int → Int → Prop
  | .h, a, b => dvd a b
  | .b, a, b => dvd (⟨a.toNat⟩ : Wo) ⟨b.toNat⟩
def kSz : Kd → Int → Nat
  | .h, a => a.natAbs
  | .b, a => blen a.toNat
structure Em (α : Type) [Eu α] (k : Kd) where
  up : Int → α
  dn : α → Int
  nkd : ∀ x, nk k (dn x)
  ud : ∀ x, up (dn x) = x
  du : ∀ a, nk k a → dn (up a) = a
  add : ∀ a b, nk k a → nk k b → kAdd k a b = dn (up a + up b)
  less : ∀ a b, nk k a → nk k b → kLess k a b = dn (up a - up b)
  times : ∀ a b, nk k a → nk k b → kTimes k a b = dn (up a * up b)
  quo : ∀ a b, nk k a → 1 ≤ b → kQuo k a b = dn (Eu.quo (up a) (up b))
  mod : ∀ a b, nk k a → 1 ≤ b → kMod k a b = dn (Eu.rem (up a) (up b))
  zero : up 0 = 0
  one : up 1 = 1
  cnn : ∀ a, nk k a → (0 ≤ a ↔ Eu.cn (up a))
  gcd : ∀ a b, nk k a → nk k b → kGcd k a b = dn (eg (up a) (up b))
  lcm : ∀ a b, nk k a → nk k b → kLcm k a b = dn (lc (up a) (up b))
  bz : ∀ l r x t, nk k l → nk k r → nk k x → nk k t → kBz k l r x t = dn (bz (up l) (up r) (up x) (up t))
  dvd : ∀ a b, kDvd k a b ↔ dvd (up a) (up b)
def emH : Em Int .h where
  up a := a
  dn a := a
  nkd _ := trivial
  ud _ := rfl
  du _ _ := rfl
  add _ _ _ _ := rfl
  less _ _ _ _ := rfl
  times _ _ _ _ := rfl
  quo _ _ _ _ := rfl
  mod _ _ _ _ := rfl
  zero := rfl
  one := rfl
  cnn _ _ := Iff.rfl
  gcd _ _ _ _ := rfl
  lcm _ _ _ _ := rfl
  bz _ _ _ _ _ _ _ _ := rfl
  dvd _ _ := Iff.rfl
def emB : Em Wo .b where
  up a := ⟨a.toNat⟩
  dn w := (w.n : Int)
  nkd w := Int.natCast_nonneg _
  ud w := rfl
  du a h := Int.toNat_of_nonneg h
  add _ _ _ _ := rfl
  less _ _ _ _ := rfl
  times _ _ _ _ := rfl
  quo _ _ _ _ := rfl
  mod _ _ _ _ := rfl
  zero := rfl
  one := rfl
  cnn a h := ⟨fun _ => trivial, fun _ => h⟩
  gcd _ _ _ _ := rfl
  lcm _ _ _ _ := rfl
  bz _ _ _ _ _ _ _ _ := rfl
  dvd _ _ := Iff.rfl
/-- what holds in each such ring holds for both kinds -/
theorem all_k {P : Kd → Prop} (h : ∀ (α : Type) (i : Eu α) (k : Kd), @Em α i k → P k) : ∀ k, P k
  | .h => h Int _ .h emH
  | .b => h Wo _ .b emB
theorem nk_of_nn {k : Kd} {a : Int} (h : 0 ≤ a) : nk k a := by cases k; exact trivial; exact h
theorem kGcd_zero {k : Kd} {a : Int} (h : nk k a) : kGcd k a 0 = a := by
  cases k
  · exact eg_zero (a : Int)
  · show ((eg (⟨a.toNat⟩ : Wo) 0).n : Int) = a
    rw [eg_zero]; exact Int.toNat_of_nonneg h
theorem kGcd_go {k : Kd} {a b : Int} (h : 1 ≤ b) : kGcd k a b = kGcd k b (kMod k a b) := by
  cases k
  · exact eg_go (show b ≠ 0 by omega)
  · show ((eg (⟨a.toNat⟩ : Wo) ⟨b.toNat⟩).n : Int) = _
    rw [eg_go (show (⟨b.toNat⟩ : Wo) ≠ 0 from fun e => by
      have : b.toNat = 0 := congrArg Wo.n e
      omega)]
    rfl
theorem kSz_mod {k : Kd} {a b : Int} (h : 1 ≤ b) : kSz k (kMod k a b) < kSz k b := by
  cases k
  · exact Eu.sm (α := Int) a b (show b ≠ 0 by omega)
  · have := Eu.sm (α := Wo) ⟨a.toNat⟩ ⟨b.toNat⟩ (fun e => by
      have : b.toNat = 0 := congrArg Wo.n e
      omega)
    exact this
theorem kMod_nn {k : Kd} {a b : Int} (h : 1 ≤ b) : 0 ≤ kMod k a b := by
  cases k
  · exact Int.emod_nonneg a (by omega)
  · exact Int.natCast_nonneg _
theorem kGcd_nn {k : Kd} {a b : Int} (ha : 0 ≤ a) (hb : 0 ≤ b) : 0 ≤ kGcd k a b := by
  cases k
  · exact cn_eg (α := Int) ha hb
  · exact Int.natCast_nonneg _
end Eud

namespace Eud
open Gen
theorem Wo.ne {a : Wo} (h : a.n ≠ 0) : a ≠ 0 := fun e => h (congrArg Wo.n e)
theorem quo_blen {a b : Nat} (hb : b ≠ 0) (hq : (cdv b 0 a).1 ≠ 0) : blen (cdv b 0 a).1 + blen b = blen a + 1 := by
  have h := cdv_law b hb _ 0 a rfl ⟨blen a, by have := blen_pos hb; omega, Nat.dvd_zero _⟩
  obtain ⟨h1, h2, _⟩ := h
  rw [clm_zero, Nat.zero_xor] at h1
  have h3 := blen_clm hb hq
  have h4 := blen_pos hq
  have h5 := blen_xor_big (a := (cdv b 0 a).2) (b := clm b (cdv b 0 a).1) (by omega)
  rw [Nat.xor_comm, h1] at h5
  omega
/-- what the loop of a paper keeps, by sizes -/
def bzJ (k : Kd) (C : Nat) (l r x t : Int) : Prop :=
  0 ≤ l ∧ 0 ≤ r ∧ nk k x ∧ nk k t ∧ match k with
  | .h => t.natAbs * l.natAbs + x.natAbs * r.natAbs ≤ C ∧ t.natAbs ≤ C + 1 ∧ x.natAbs ≤ C + 1
  | .b => (t.toNat = 0 ∨ blen t.toNat + blen l.toNat ≤ C + 1) ∧ (x.toNat = 0 ∨ blen x.toNat + blen r.toNat ≤ C + 1) ∧ blen t.toNat ≤ C + 1 ∧ blen x.toNat ≤ C + 1
theorem bzJ_start {k : Kd} {a b : Int} (ha : 0 ≤ a) (hb : 0 ≤ b) : bzJ k (kSz k b) a b 1 0 := by
  refine ⟨ha, hb, nk_of_nn (by decide), nk_of_nn (by decide), ?_⟩
  cases k
  · show 0 * _ + 1 * b.natAbs ≤ b.natAbs ∧ 0 ≤ _ ∧ 1 ≤ _
    omega
  · have h1 : blen (1 : Int).toNat = 1 := by decide
    refine ⟨.inl rfl, .inr ?_, ?_, ?_⟩
    · rw [h1]; show 1 + blen b.toNat ≤ blen b.toNat + 1; omega
    · show 0 ≤ _; omega
    · rw [h1]; omega
theorem bzJ_step {k : Kd} {C : Nat} {l r x t : Int} (h : bzJ k C l r x t) (hr : 1 ≤ r) : bzJ k C r (kMod k l r) t (kLess k x (kTimes k (kQuo k l r) t)) := by
  obtain ⟨hl, _, hx, ht, h⟩ := h
  cases k
  · obtain ⟨h1, h2, h3⟩ := h
    have e := Int.mul_ediv_add_emod l r
    have e1 := Int.emod_nonneg l (show r ≠ 0 by omega)
    have q0 : 0 ≤ l / r := Int.ediv_nonneg hl (by omega)
    have key : (x - l / r * t).natAbs * r.natAbs + t.natAbs * (l % r).natAbs ≤ C := by
      have a1 : (x - l / r * t).natAbs ≤ x.natAbs + (l / r).natAbs * t.natAbs := by
        have := Int.natAbs_mul (l / r) t
        omega
      have a2 : (l / r).natAbs * r.natAbs + (l % r).natAbs = l.natAbs := by
        have m := Int.natAbs_mul r (l / r)
        have m0 : 0 ≤ r * (l / r) := Int.mul_nonneg (by omega) q0
        rw [Nat.mul_comm, ← m]
        omega
      calc (x - l / r * t).natAbs * r.natAbs + t.natAbs * (l % r).natAbs ≤ (x.natAbs + (l / r).natAbs * t.natAbs) * r.natAbs + t.natAbs * (l % r).natAbs := Nat.add_le_add_right (Nat.mul_le_mul_right _ a1) _
        _ = t.natAbs * ((l / r).natAbs * r.natAbs + (l % r).natAbs) + x.natAbs * r.natAbs := by grind
        _ = t.natAbs * l.natAbs + x.natAbs * r.natAbs := by rw [a2]
        _ ≤ C := h1
    refine ⟨by omega, e1, trivial, trivial, key, ?_, h2⟩
    show (x - l / r * t).natAbs ≤ C + 1
    have : (x - l / r * t).natAbs * 1 ≤ (x - l / r * t).natAbs * r.natAbs := Nat.mul_le_mul_left _ (by omega)
    omega
  · obtain ⟨h1, h2, h3, h4⟩ := h
    have hr0 : r.toNat ≠ 0 := by omega
    refine ⟨by omega, Int.natCast_nonneg _, ht, Int.natCast_nonneg _, ?_⟩
    show (x.toNat ^^^ clm (cdv r.toNat 0 l.toNat).1 t.toNat = 0 ∨ blen (x.toNat ^^^ clm (cdv r.toNat 0 l.toNat).1 t.toNat) + blen r.toNat ≤ C + 1) ∧ (t.toNat = 0 ∨ blen t.toNat + blen (cdv r.toNat 0 l.toNat).2 ≤ C + 1) ∧ blen (x.toNat ^^^ clm (cdv r.toNat 0 l.toNat).1 t.toNat) ≤ C + 1 ∧ blen t.toNat ≤ C + 1
    have hlt := (cdv_law r.toNat hr0 _ 0 l.toNat rfl ⟨blen l.toNat, by have := blen_pos hr0; omega, Nat.dvd_zero _⟩).2.1
    have rp := blen_pos hr0
    generalize hq : (cdv r.toNat 0 l.toNat).1 = q at *
    generalize hm : (cdv r.toNat 0 l.toNat).2 = m at *
    -- the product's bits
    have hp : clm q t.toNat = 0 ∨ blen (clm q t.toNat) + blen r.toNat ≤ C + 1 := by
      by_cases z : q = 0
      · left; rw [z, clm_zero_left]
      · by_cases z2 : t.toNat = 0
        · left; rw [z2, clm_zero]
        · right
          have a1 := blen_clm z z2
          have a2 := quo_blen (a := l.toNat) hr0 (by rw [hq]; exact z)
          rw [hq] at a2
          rcases h1 with h1 | h1
          · exact absurd h1 z2
          · omega
    have hs : x.toNat ^^^ clm q t.toNat = 0 ∨ blen (x.toNat ^^^ clm q t.toNat) + blen r.toNat ≤ C + 1 := by
      rcases h2 with h2 | h2
      · rw [h2, Nat.zero_xor]; exact hp
      · rcases hp with hp | hp
        · rw [hp, Nat.xor_zero]; exact .inr h2
        · right
          have := blen_xor_le (a := x.toNat) (b := clm q t.toNat) (n := C + 1 - blen r.toNat) (by omega) (by omega)
          omega
    refine ⟨hs, ?_, ?_, h3⟩
    · by_cases z2 : t.toNat = 0
      · exact .inl z2
      · right
        rcases h1 with h1 | h1
        · exact absurd h1 z2
        · -- the rest is no longer than what is divided, or shorter
          have : blen m ≤ blen l.toNat := by
            have h6 := cdv_law r.toNat hr0 _ 0 l.toNat rfl ⟨blen l.toNat, by have := blen_pos hr0; omega, Nat.dvd_zero _⟩
            by_cases z : q = 0
            · have h7 := h6.1
              rw [hq, hm, z, clm_zero, Nat.zero_xor, Nat.zero_xor] at h7
              rw [h7]; exact Nat.le_refl _
            · have a2 := quo_blen (a := l.toNat) hr0 (by rw [hq]; exact z)
              rw [hq] at a2
              have := blen_pos z
              omega
          omega
    · rcases hs with hs | hs
      · rw [hs]; show 0 ≤ _; omega
      · omega
theorem kBz_zero {k : Kd} {l x t : Int} (h : nk k x) : kBz k l 0 x t = x := by
  cases k
  · exact bz_zero (l : Int) x t
  · show ((bz (⟨l.toNat⟩ : Wo) 0 _ _).n : Int) = x
    rw [bz_zero]; exact Int.toNat_of_nonneg h
theorem kBz_go {k : Kd} {l r x t : Int} (h : 1 ≤ r) : kBz k l r x t = kBz k r (kMod k l r) t (kLess k x (kTimes k (kQuo k l r) t)) := by
  cases k
  · exact bz_go (show r ≠ 0 by omega)
  · show ((bz (⟨l.toNat⟩ : Wo) ⟨r.toNat⟩ _ _).n : Int) = _
    rw [bz_go (Wo.ne (a := ⟨r.toNat⟩) (show r.toNat ≠ 0 by omega))]
    rfl
def bzC : Kd → Nat → Prop
  | .h, C => C + 1 < 2 ^ 900
  | .b, C => C + 1 ≤ 900
theorem bzJ_sh {k : Kd} {C : Nat} {l r x t : Int} (h : bzJ k C l r x t) (hC : bzC k C) : ok k 900 x ∧ ok k 900 t := by
  obtain ⟨_, _, hx, ht, h⟩ := h
  cases k
  · obtain ⟨_, h2, h3⟩ := h
    exact ⟨⟨hx, Nat.lt_of_le_of_lt h3 hC⟩, ⟨ht, Nat.lt_of_le_of_lt h2 hC⟩⟩
  · obtain ⟨_, _, h3, h4⟩ := h
    have hx' : 0 ≤ x := hx
    have ht' : 0 ≤ t := ht
    refine ⟨⟨hx, ?_⟩, ⟨ht, ?_⟩⟩
    · rw [show x.natAbs = x.toNat by omega]
      exact blen_le_iff.mp (Nat.le_trans h4 hC)
    · rw [show t.natAbs = t.toNat by omega]
      exact blen_le_iff.mp (Nat.le_trans h3 hC)
end Eud

namespace Eud
open Gen
theorem kBz_J {k : Kd} {C : Nat} : ∀ (n : Nat) (l r x t : Int), kSz k r = n → bzJ k C l r x t → nk k (kBz k l r x t) ∧ match k with | .h => (kBz k l r x t).natAbs ≤ C + 1 | .b => blen (kBz k l r x t).toNat ≤ C + 1 := by
  intro n
  induction n using Nat.strongRecOn with
  | _ n ih =>
    intro l r x t hn h
    by_cases z : r = 0
    · subst z
      obtain ⟨_, _, hx, ht, h⟩ := h
      rw [kBz_zero hx]
      refine ⟨hx, ?_⟩
      cases k
      · exact h.2.2
      · exact h.2.2.2
    · have hr : 1 ≤ r := by have := h.2.1; omega
      rw [kBz_go hr]
      exact ih (kSz k (kMod k l r)) (by have := kSz_mod (k := k) (a := l) hr; omega) _ _ _ _ rfl (bzJ_step h hr)
theorem kBz_ok {k : Kd} {m : Nat} {a b : Int} (ha : 0 ≤ a) (hb : 0 ≤ b) (hm : b.natAbs < 2 ^ m) : ok k (m + 1) (kBz k a b 1 0) := by
  obtain ⟨h1, h2⟩ := kBz_J _ a b 1 0 rfl (bzJ_start (k := k) ha hb)
  refine ⟨h1, ?_⟩
  cases k
  · have h2' : (kBz .h a b 1 0).natAbs ≤ b.natAbs + 1 := h2
    rw [Nat.pow_succ]
    omega
  · have h2' : blen (kBz .b a b 1 0).toNat ≤ blen b.toNat + 1 := h2
    have h1' : 0 ≤ kBz .b a b 1 0 := h1
    have hb2 : blen b.toNat ≤ m := blen_le (by omega)
    have := blen_le_iff.mp (Nat.le_trans h2' (Nat.add_le_add_right hb2 1))
    omega
theorem kGcd_le {k : Kd} {m : Nat} {a b : Int} (ha : 0 ≤ a) (hb : 0 ≤ b) (h1 : a.natAbs < 2 ^ m) (h2 : b.natAbs < 2 ^ m) : ok k m (kGcd k a b) := by
  have key : ∀ (n : Nat) (a b : Int), kSz k b = n → 0 ≤ a → 0 ≤ b → a.natAbs < 2 ^ m → b.natAbs < 2 ^ m → ok k m (kGcd k a b) := by
    intro n
    induction n using Nat.strongRecOn with
    | _ n ih =>
      intro a b hn ha hb h1 h2
      by_cases z : b = 0
      · subst z
        rw [kGcd_zero (nk_of_nn ha)]
        exact ⟨nk_of_nn ha, h1⟩
      · have hr : 1 ≤ b := by omega
        rw [kGcd_go hr]
        refine ih (kSz k (kMod k a b)) (by have := kSz_mod (k := k) (a := a) hr; omega) _ _ rfl hb (kMod_nn hr) h2 ?_
        exact (ok_mod (k := k) (m := m) ⟨nk_of_nn ha, h1⟩ hr h2).2
  exact key _ a b rfl ha hb h1 h2
theorem kGcd_eq_zero {k : Kd} {a b : Int} (ha : 0 ≤ a) (hb : 0 ≤ b) : kGcd k a b = 0 ↔ a = 0 ∧ b = 0 := by
  cases k
  · exact eg_eq_zero (a := a) (b := b)
  · constructor
    · intro h
      have h' : eg (⟨a.toNat⟩ : Wo) ⟨b.toNat⟩ = 0 := Wo.ext (by
        have : ((eg (⟨a.toNat⟩ : Wo) ⟨b.toNat⟩).n : Int) = 0 := h
        show (eg (⟨a.toNat⟩ : Wo) ⟨b.toNat⟩).n = 0
        omega)
      obtain ⟨h1, h2⟩ := eg_eq_zero.mp h'
      have e1 : a.toNat = 0 := congrArg Wo.n h1
      have e2 : b.toNat = 0 := congrArg Wo.n h2
      omega
    · rintro ⟨rfl, rfl⟩
      exact kGcd_zero (k := .b) (show (0 : Int) ≤ 0 by decide)
theorem kLcm_zero {k : Kd} {a b : Int} (h : a = 0 ∨ b = 0) : kLcm k a b = 0 := by
  cases k
  · show lc a b = 0
    unfold lc
    rw [if_pos h]
  · show ((lc (⟨a.toNat⟩ : Wo) ⟨b.toNat⟩).n : Int) = 0
    unfold lc
    rw [if_pos]
    · rfl
    · rcases h with rfl | rfl
      · exact .inl rfl
      · exact .inr rfl
theorem kLcm_go {k : Kd} {a b : Int} (ha : 0 ≤ a) (hb : 0 ≤ b) (h : ¬(a = 0 ∨ b = 0)) : kLcm k a b = kTimes k (kQuo k a (kGcd k a b)) b := by
  cases k
  · show lc a b = _
    unfold lc
    rw [if_neg h]
    rfl
  · show ((lc (⟨a.toNat⟩ : Wo) ⟨b.toNat⟩).n : Int) = _
    unfold lc
    rw [if_neg]
    · rfl
    · rintro (e | e)
      · have : a.toNat = 0 := congrArg Wo.n e
        exact h (.inl (by omega))
      · have : b.toNat = 0 := congrArg Wo.n e
        exact h (.inr (by omega))
end Eud

namespace Gen
open PySem PySem.Spec PyProof.Rows L2 Mini
open Eud
def sp_over_in : Mini.Spec := spK2 (fun k a b => nk k a ∧ 1 ≤ b ∧ sh a ∧ sh b) fun k a b => .int (kQuo k a b)
def sp_divisor_in : Mini.Spec := spK2 (fun _ a b => 0 ≤ a ∧ 0 ≤ b ∧ sh a ∧ sh b) fun k a b => .int (kGcd k a b)
def sp_multiple_in : Mini.Spec := spK2 (fun _ a b => 0 ≤ a ∧ 0 ≤ b ∧ sh a ∧ sh b) fun k a b => .int (kLcm k a b)
def sp_bezout_in : Mini.Spec := spK2 (fun _ a b => 0 ≤ a ∧ 0 ≤ b ∧ a.natAbs < 2 ^ 400 ∧ b.natAbs < 2 ^ 400) fun k a b => .int (kBz k a b 1 0)
def N_over_in : List Str := ["kind", "number", "by"]
@[simp] def d_over_in : Def := ⟨3, 3, 0,
  (.cons (.ret (.idx (.call 0 (.cons (.var 0) (.cons (.var 1) (.cons (.var 2) .nil)))) (.cst (.int 0)))) .nil)⟩
@[simp] def T_over_in : Tab := ⟨[("divided_in", 3, sp_divided_in)], [], []⟩
def N_divisor_in : List Str := ["kind", "one", "other"]
@[simp] def d_divisor_in : Def := ⟨3, 3, 0,
  (.cons (.whl (.cmp .NotEq (.var 2) (.cst (.int 0))) (.cons (.par [1, 2] (.cons (.var 2) (.cons (.call 0 (.cons (.var 0) (.cons (.var 1) (.cons (.var 2) .nil)))) .nil))) .nil)) (.cons (.ret (.var 1)) .nil))⟩
@[simp] def T_divisor_in : Tab := ⟨[("rest_in", 3, sp_rest_in)], [], []⟩
def N_multiple_in : List Str := ["kind", "one", "other"]
@[simp] def d_multiple_in : Def := ⟨3, 3, 0,
  (.cons (.ite (.bop .Or (.cons (.cmp .Eq (.var 1) (.cst (.int 0))) (.cons (.cmp .Eq (.var 2) (.cst (.int 0))) .nil))) (.cons (.ret (.cst (.int 0))) .nil) .nil) (.cons (.ret (.call 0 (.cons (.var 0) (.cons (.call 1 (.cons (.var 0) (.cons (.var 1) (.cons (.call 2 (.cons (.var 0) (.cons (.var 1) (.cons (.var 2) .nil)))) .nil)))) (.cons (.var 2) .nil))))) .nil))⟩
@[simp] def T_multiple_in : Tab := ⟨[("times_in", 3, sp_times_in), ("over_in", 3, sp_over_in), ("divisor_in", 3, sp_divisor_in)], [], []⟩
def N_bezout_in : List Str := ["kind", "one", "other", "left", "right", "here", "there", "often", "rest"]
@[simp] def d_bezout_in : Def := ⟨3, 9, 0,
  (.cons (.asg (.tup (.cons (.var 3) (.cons (.var 4) (.cons (.var 5) (.cons (.var 6) .nil))))) (.tup (.cons (.var 1) (.cons (.var 2) (.cons (.cst (.int 1)) (.cons (.cst (.int 0)) .nil)))))) (.cons (.whl (.cmp .NotEq (.var 4) (.cst (.int 0))) (.cons (.asg (.tup (.cons (.var 7) (.cons (.var 8) .nil))) (.call 0 (.cons (.var 0) (.cons (.var 3) (.cons (.var 4) .nil))))) (.cons (.asg (.tup (.cons (.var 3) (.cons (.var 4) (.cons (.var 5) (.cons (.var 6) .nil))))) (.tup (.cons (.var 4) (.cons (.var 8) (.cons (.var 6) (.cons (.call 1 (.cons (.var 0) (.cons (.var 5) (.cons (.call 2 (.cons (.var 0) (.cons (.var 7) (.cons (.var 6) .nil)))) .nil)))) .nil)))))) .nil))) (.cons (.ret (.var 5)) .nil)))⟩
@[simp] def T_bezout_in : Tab := ⟨[("divided_in", 3, sp_divided_in), ("less_in", 3, sp_less_in), ("times_in", 3, sp_times_in)], [], []⟩
local macro_rules
  | `(tactic| walk_at "dn") => `(tactic| simp only [denF, denB, denS, den, denL, denO, denI, denC, DE.of, testOf, boolOf, strict1, strict2, ex_eq_some, ex_ss, ex_di, ex_none, ex_call, ex_look2, ex_look1, ex_tru, some_if, some_map, map_some, looks_nil, looks_d, datas_nil, datas_d, ex_some2, tru_none, tru_bool, tru_int, tru_list, cmp_eq_int, cmp_ne_int, cmp_lt, cmp_le, cmp_gt, cmp_ge, cmp_eq_str, cmp_ne_str, op_add, op_sub, op_mul, op_fdv, op_mod, op_pow, op_shl, op_shr, op_and, op_or, op_xor, op_cat, un_neg, is_none, in_none, in_int, in_str, in_list, blt_len, blt_int, blt_abs, blt_max, blt_min, blt_repr, blt_sum, isi_int_int, isi_int_bool, isi_int_str, isi_str_str, isi_str_int, isi_str_bool, isi_bool_bool, isi_bool_int, isi_none_int, isi_none_str, isi_list_list, isi_list_int, isi_list_str, idx_list, idx_tuple, in2, spI1_at, spD_at, spKD_at, spKD_h, spKD_b, isW_int, isC_int, isN_int, isN_h, isN_b, sp_check_number_at, spK0_at, spK0_h, spK0_b, spK1_at, spK1_h, spK1_b, spK2_at, spK2_h, spK2_b, nk, kS_h, kS_b, l2, hours_bits, bits_hours, List.map_cons, List.map_nil, List.cons_append, List.nil_append, List.replicate_succ, List.replicate_zero, Nat.reduceSub, Nat.reduceAdd, List.getElem?_cons_zero, List.getElem?_cons_succ, List.set_cons_zero, List.set_cons_succ, if_true, if_false, Bool.false_eq_true, decide_eq_true_eq, decide_true, decide_false, Bool.not_true, Bool.not_false, Bool.or_true, Bool.true_or, Bool.or_false, Bool.false_or, exists_eq_left', true_and, and_true, eq_self, List.length_cons, List.length_nil, List.take_length, fin_d, fin_t, Bool.not_eq_true', decide_eq_false_iff_not, and_self, Bool.true_eq_false, reduceCtorEq])
local macro_rules
  | `(tactic| walk_at "dm") => `(tactic| simp only [denF, denB, denS, den, denL, denO, denI, denC, DE.of, testOf, boolOf, strict1, strict2, ex_eq_some, ex_ss, ex_di, ex_none, ex_call, ex_look2, ex_look1, ex_tru, some_if, some_map, map_some, looks_nil, looks_d, datas_nil, datas_d, ex_some2, tru_none, tru_bool, tru_int, tru_list, cmp_eq_int, cmp_ne_int, cmp_lt, cmp_le, cmp_gt, cmp_ge, cmp_eq_str, cmp_ne_str, op_add, op_sub, op_mul, op_fdv, op_mod, op_pow, op_shl, op_shr, op_and, op_or, op_xor, op_cat, un_neg, is_none, in_none, in_int, in_str, in_list, blt_len, blt_int, blt_abs, blt_max, blt_min, blt_repr, blt_sum, isi_int_int, isi_int_bool, isi_int_str, isi_str_str, isi_str_int, isi_str_bool, isi_bool_bool, isi_bool_int, isi_none_int, isi_none_str, isi_list_list, isi_list_int, isi_list_str, idx_list, idx_tuple, in2, spI1_at, spD_at, spKD_at, spKD_h, spKD_b, isW_int, isC_int, isN_int, isN_h, isN_b, sp_check_number_at, spK0_at, spK0_h, spK0_b, spK1_at, spK1_h, spK1_b, spK2_at, spK2_h, spK2_b, kS_h, kS_b, l2, hours_bits, bits_hours, List.map_cons, List.map_nil, List.cons_append, List.nil_append, List.replicate_succ, List.replicate_zero, Nat.reduceSub, Nat.reduceAdd, List.getElem?_cons_zero, List.getElem?_cons_succ, List.set_cons_zero, List.set_cons_succ, if_true, if_false, Bool.false_eq_true, decide_eq_true_eq, decide_true, decide_false, Bool.not_true, Bool.not_false, Bool.or_true, Bool.true_or, Bool.or_false, Bool.false_or, exists_eq_left', true_and, and_true, eq_self, List.length_cons, List.length_nil, List.take_length, fin_d, fin_t, Bool.not_eq_true', decide_eq_false_iff_not, and_self, Bool.true_eq_false, reduceCtorEq])
theorem b_over_in : ∀ (es : List EV) (s : ST) (Q : QE) (X : QX), es.length = d_over_in.np → sp_over_in es s Q X → denF T_over_in d_over_in es s Q X := by
  rintro es s Q X hl ⟨k, a, b, rfl, ⟨p1, p2, s1, s2⟩, q⟩
  simp only [T_over_in, d_over_in, sp_divided_in]
  walk_at "dn"
  exact ⟨⟨p1, p2, s1, s2⟩, _, rfl, q⟩
theorem sh_iff {a : Int} : sh a ↔ a.natAbs < 2 ^ 1000 := Iff.rfl
theorem b_divisor_in : ∀ (es : List EV) (s : ST) (Q : QE) (X : QX), es.length = d_divisor_in.np → sp_divisor_in es s Q X → denF T_divisor_in d_divisor_in es s Q X := by
  rintro es s Q X hl ⟨k, a, b, rfl, ⟨p1, p2, s1, s2⟩, q⟩
  simp only [T_divisor_in, d_divisor_in, sp_rest_in]
  walk_at "dn"
  refine whlGo_ind (fun m env st => st = s ∧ ∃ x y : Int, env = [some (.d (.str (kS k))), some (.d (.int x)), some (.d (.int y))] ∧ kSz k y = m ∧ 0 ≤ x ∧ 0 ≤ y ∧ sh x ∧ sh y ∧ kGcd k x y = kGcd k a b) ?_ (kSz k b) ⟨rfl, a, b, rfl, rfl, p1, p2, s1, s2, rfl⟩
  rintro m env st ⟨rfl, x, y, rfl, hm, hx, hy, sx, sy, he⟩ k' e1 e2 e3 hn hc
  walk_at "dn"
  by_cases z : y = 0
  · subst z
    rw [if_neg (by simp)]
    rw [kGcd_zero (nk_of_nn hx)] at he
    rw [he]
    exact q
  · rw [if_pos z]
    have hr : 1 ≤ y := by omega
    have er : kRest k x y = kMod k x y := by unfold kRest; rw [if_neg z]
    refine ⟨⟨nk_of_nn hx, hy, sx, sy⟩, _, rfl, ?_⟩
    rw [er]
    refine hn _ _ (kSz k (kMod k x y)) (by rw [← hm]; exact kSz_mod hr) ⟨rfl, y, _, rfl, rfl, hy, kMod_nn hr, sy, ?_, ?_⟩
    · exact (ok_mod (k := k) (m := 1000) ⟨nk_of_nn hx, sx⟩ hr sy).2
    · rw [← kGcd_go hr, he]
theorem b_multiple_in : ∀ (es : List EV) (s : ST) (Q : QE) (X : QX), es.length = d_multiple_in.np → sp_multiple_in es s Q X → denF T_multiple_in d_multiple_in es s Q X := by
  rintro es s Q X hl ⟨k, a, b, rfl, ⟨p1, p2, s1, s2⟩, q⟩
  simp only [T_multiple_in, d_multiple_in, sp_times_in, sp_over_in, sp_divisor_in]
  walk_at "dn"
  by_cases z : a = 0
  · rw [if_pos z]
    simp only [kLcm_zero (k := k) (.inl z : a = 0 ∨ b = 0)] at q
    exact q
  · rw [if_neg z]
    by_cases z2 : b = 0
    · rw [if_pos z2]
      simp only [kLcm_zero (k := k) (.inr z2 : a = 0 ∨ b = 0)] at q
      exact q
    · rw [if_neg z2]
      have hz : ¬(a = 0 ∨ b = 0) := fun h => h.elim z z2
      have hg := kGcd_nn (k := k) p1 p2
      have hg0 : kGcd k a b ≠ 0 := fun e => z ((kGcd_eq_zero p1 p2).mp e).1
      have og := kGcd_le (k := k) p1 p2 s1 s2
      have oq := ok_quo (k := k) (m := 1000) (b := kGcd k a b) ⟨nk_of_nn p1, s1⟩ (by omega)
      simp only [kLcm_go (k := k) p1 p2 hz] at q
      exact ⟨⟨p1, p2, s1, s2⟩, ⟨nk_of_nn p1, by omega, s1, og.2⟩, ⟨⟨oq.1, nk_of_nn p2⟩, oq.2, s2⟩, q⟩
set_option exponentiation.threshold 2000 in
theorem b_bezout_in : ∀ (es : List EV) (s : ST) (Q : QE) (X : QX), es.length = d_bezout_in.np → sp_bezout_in es s Q X → denF T_bezout_in d_bezout_in es s Q X := by
  rintro es s Q X hl ⟨k, a, b, rfl, ⟨p1, p2, s1, s2⟩, q⟩
  simp only [T_bezout_in, d_bezout_in, sp_divided_in, sp_less_in, sp_times_in]
  walk_at "dm"
  have hC : bzC k (kSz k b) := by
    cases k
    · show b.natAbs + 1 < 2 ^ 900
      have : (2 : Nat) ^ 400 ≤ 2 ^ 899 := Nat.pow_le_pow_right (by decide) (by decide)
      have e : (2 : Nat) ^ 900 = 2 ^ 899 * 2 := rfl
      omega
    · show blen b.toNat + 1 ≤ 900
      have := blen_le (a := b.toNat) (n := 400) (by omega)
      omega
  refine ⟨by decide, _, _, rfl, rfl, ?_⟩
  refine whlGo_ind (fun m env st => st = s ∧ ∃ (l r x t : Int) (q1 q2 : Option EV), env = [some (.d (.str (kS k))), some (.d (.int a)), some (.d (.int b)), some (.d (.int l)), some (.d (.int r)), some (.d (.int x)), some (.d (.int t)), q1, q2] ∧ kSz k r = m ∧ bzJ k (kSz k b) l r x t ∧ l.natAbs < 2 ^ 400 ∧ r.natAbs < 2 ^ 400 ∧ kBz k l r x t = kBz k a b 1 0) ?_ (kSz k b) ⟨rfl, a, b, 1, 0, none, none, rfl, rfl, bzJ_start p1 p2, s1, s2, rfl⟩
  rintro m env st ⟨rfl, l, r, x, t, q1, q2, rfl, hm, hJ, hl1, hr1, he⟩ k' e1 e2 e3 hn hc
  walk_at "dm"
  obtain ⟨ox, ot⟩ := bzJ_sh hJ hC
  by_cases z : r = 0
  · subst z
    rw [if_neg (by simp)]
    rw [kBz_zero hJ.2.2.1] at he
    rw [he]
    exact q
  · rw [if_pos z]
    have hr : 1 ≤ r := by have := hJ.2.1; omega
    have ol : ok k 400 l := ⟨nk_of_nn hJ.1, hl1⟩
    have or' : ok k 400 r := ⟨nk_of_nn hJ.2.1, hr1⟩
    have oq := ok_quo ol hr
    have om := ok_mod ol hr hr1
    have oqt := ok_times oq ot
    refine ⟨⟨ol.1, hr, ol.sh (by decide), or'.sh (by decide)⟩, _, _, rfl, rfl, ?_⟩
    walk_at "dm"
    refine ⟨⟨⟨oq.1, ot.1⟩, oq.sh (by decide), ot.sh (by decide)⟩, ⟨ox.1, oqt.1⟩, by decide, _, _, rfl, rfl, ?_⟩
    refine hn _ _ (kSz k (kMod k l r)) (by rw [← hm]; exact kSz_mod hr) ⟨rfl, r, _, t, _, some (.d (.int (kQuo k l r))), some (.d (.int (kMod k l r))), rfl, rfl, bzJ_step hJ hr, hr1, om.2, ?_⟩
    rw [← kBz_go hr, he]
end Gen

namespace Gen
open PySem PySem.Spec PyProof.Rows L2 Mini
open Eud
def kMet (k : Kd) (a b c d : Int) : PyData :=
  if kRest k (kLess k c a) (kGcd k b d) = 0 then
    if b = 0 ∨ d = 0 then .tuple [.int (if b = 0 then a else c), .int 0]
    else .tuple [.int (kRest k (kAdd k a (kTimes k b (kTimes k (kQuo k (kLess k c a) (kGcd k b d)) (kBz k b d 1 0)))) (kLcm k b d)), .int (kLcm k b d)]
  else .none
def metP (k : Kd) (a b c d : Int) : Prop := ok k 300 a ∧ ok k 300 c ∧ (0 ≤ b ∧ b.natAbs < 2 ^ 300) ∧ 0 ≤ d ∧ d.natAbs < 2 ^ 300
def sp_met_in : Mini.Spec := fun es st Q _ => ∃ k a b c d, es = [.d (.str (kS k)), .d (.int a), .d (.int b), .d (.int c), .d (.int d)] ∧ metP k a b c d ∧ Q (.d (kMet k a b c d)) st
theorem sp_met_in_at {st Q X k a b c d} : sp_met_in [.d (.str (kS k)), .d (.int a), .d (.int b), .d (.int c), .d (.int d)] st Q X ↔ metP k a b c d ∧ Q (.d (kMet k a b c d)) st := by
  constructor
  · rintro ⟨k', _, _, _, _, e, p, q⟩
    simp only [List.cons.injEq, EV.d.injEq, PyData.str.injEq, PyData.int.injEq, and_true] at e
    obtain ⟨e1, rfl, rfl, rfl, rfl⟩ := e
    cases kS_inj e1
    exact ⟨p, q⟩
  · rintro ⟨p, q⟩
    exact ⟨k, a, b, c, d, rfl, p, q⟩
def N_met_in : List Str := ["kind", "one", "by", "other", "more", "both", "apart", "together", "steps", "found"]
def d_met_in_7 : B := .cons
  (.ret (.tup (.cons (.call 8 (.cons (.var 0) (.cons (.var 9) (.cons (.var 7) .nil)))) (.cons (.var 7) .nil))))
  .nil
def d_met_in_6 : B := .cons
  (.asg (.var 9) (.call 7 (.cons (.var 0) (.cons (.var 1) (.cons (.ite (.cmp .Eq (.var 0) (.cst (.str "hours"))) (.call 4 (.cons (.var 0) (.cons (.var 2) (.cons (.var 8) .nil)))) (.call 4 (.cons (.var 0) (.cons (.var 8) (.cons (.var 2) .nil))))) .nil)))))
  d_met_in_7
def d_met_in_5 : B := .cons
  (.asg (.var 8) (.call 4 (.cons (.var 0) (.cons (.call 5 (.cons (.var 0) (.cons (.var 6) (.cons (.var 5) .nil)))) (.cons (.call 6 (.cons (.var 0) (.cons (.var 2) (.cons (.var 4) .nil)))) .nil)))))
  d_met_in_6
def d_met_in_4 : B := .cons
  (.ite (.bop .Or (.cons (.cmp .Eq (.var 2) (.cst (.int 0))) (.cons (.cmp .Eq (.var 4) (.cst (.int 0))) .nil))) (.cons (.ret (.tup (.cons (.ite (.cmp .Eq (.var 2) (.cst (.int 0))) (.var 1) (.var 3)) (.cons (.cst (.int 0)) .nil)))) .nil) .nil)
  d_met_in_5
def d_met_in_3 : B := .cons
  (.asg (.var 7) (.call 3 (.cons (.var 0) (.cons (.var 2) (.cons (.var 4) .nil)))))
  d_met_in_4
def d_met_in_2 : B := .cons
  (.ite (.un .Not (.call 2 (.cons (.var 0) (.cons (.var 6) (.cons (.var 5) .nil))))) (.cons (.ret (.cst .none)) .nil) .nil)
  d_met_in_3
def d_met_in_1 : B := .cons
  (.asg (.var 6) (.call 1 (.cons (.var 0) (.cons (.var 3) (.cons (.var 1) .nil)))))
  d_met_in_2
def d_met_in_0 : B := .cons
  (.asg (.var 5) (.call 0 (.cons (.var 0) (.cons (.var 2) (.cons (.var 4) .nil)))))
  d_met_in_1
@[simp] def d_met_in : Def := ⟨5, 10, 0,
  d_met_in_0⟩
@[simp] def T_met_in : Tab := ⟨[("divisor_in", 3, sp_divisor_in), ("less_in", 3, sp_less_in), ("is_multiple_in", 3, sp_is_multiple_in), ("multiple_in", 3, sp_multiple_in), ("times_in", 3, sp_times_in), ("over_in", 3, sp_over_in), ("bezout_in", 3, sp_bezout_in), ("add_in", 3, sp_add_in), ("rest_in", 3, sp_rest_in)], [], []⟩
local macro_rules
  | `(tactic| walk_at "dn") => `(tactic| simp only [denF, denB, denS, den, denL, denO, denI, denC, DE.of, testOf, boolOf, strict1, strict2, ex_eq_some, ex_ss, ex_di, ex_none, ex_call, ex_look2, ex_look1, ex_tru, some_if, some_map, map_some, looks_nil, looks_d, datas_nil, datas_d, ex_some2, tru_none, tru_bool, tru_int, tru_list, cmp_eq_int, cmp_ne_int, cmp_lt, cmp_le, cmp_gt, cmp_ge, cmp_eq_str, cmp_ne_str, op_add, op_sub, op_mul, op_fdv, op_mod, op_pow, op_shl, op_shr, op_and, op_or, op_xor, op_cat, un_neg, is_none, in_none, in_int, in_str, in_list, blt_len, blt_int, blt_abs, blt_max, blt_min, blt_repr, blt_sum, isi_int_int, isi_int_bool, isi_int_str, isi_str_str, isi_str_int, isi_str_bool, isi_bool_bool, isi_bool_int, isi_none_int, isi_none_str, isi_list_list, isi_list_int, isi_list_str, idx_list, idx_tuple, in2, spI1_at, spD_at, spKD_at, spKD_h, spKD_b, isW_int, isC_int, isN_int, isN_h, isN_b, sp_check_number_at, spK0_at, spK0_h, spK0_b, spK1_at, spK1_h, spK1_b, spK2_at, spK2_h, spK2_b, nk, kS_h, kS_b, l2, hours_bits, bits_hours, List.map_cons, List.map_nil, List.cons_append, List.nil_append, List.replicate_succ, List.replicate_zero, Nat.reduceSub, Nat.reduceAdd, List.getElem?_cons_zero, List.getElem?_cons_succ, List.set_cons_zero, List.set_cons_succ, if_true, if_false, Bool.false_eq_true, decide_eq_true_eq, decide_true, decide_false, Bool.not_true, Bool.not_false, Bool.or_true, Bool.true_or, Bool.or_false, Bool.false_or, exists_eq_left', true_and, and_true, eq_self, List.length_cons, List.length_nil, List.take_length, fin_d, fin_t, Bool.not_eq_true', decide_eq_false_iff_not, and_self, Bool.true_eq_false, reduceCtorEq])
local macro_rules
  | `(tactic| walk_at "dm") => `(tactic| simp only [denF, denB, denS, den, denL, denO, denI, denC, DE.of, testOf, boolOf, strict1, strict2, ex_eq_some, ex_ss, ex_di, ex_none, ex_call, ex_look2, ex_look1, ex_tru, some_if, some_map, map_some, looks_nil, looks_d, datas_nil, datas_d, ex_some2, tru_none, tru_bool, tru_int, tru_list, cmp_eq_int, cmp_ne_int, cmp_lt, cmp_le, cmp_gt, cmp_ge, cmp_eq_str, cmp_ne_str, op_add, op_sub, op_mul, op_fdv, op_mod, op_pow, op_shl, op_shr, op_and, op_or, op_xor, op_cat, un_neg, is_none, in_none, in_int, in_str, in_list, blt_len, blt_int, blt_abs, blt_max, blt_min, blt_repr, blt_sum, isi_int_int, isi_int_bool, isi_int_str, isi_str_str, isi_str_int, isi_str_bool, isi_bool_bool, isi_bool_int, isi_none_int, isi_none_str, isi_list_list, isi_list_int, isi_list_str, idx_list, idx_tuple, in2, spI1_at, spD_at, spKD_at, spKD_h, spKD_b, isW_int, isC_int, isN_int, isN_h, isN_b, sp_check_number_at, spK0_at, spK0_h, spK0_b, spK1_at, spK1_h, spK1_b, spK2_at, spK2_h, spK2_b, kS_h, kS_b, l2, hours_bits, bits_hours, List.map_cons, List.map_nil, List.cons_append, List.nil_append, List.replicate_succ, List.replicate_zero, Nat.reduceSub, Nat.reduceAdd, List.getElem?_cons_zero, List.getElem?_cons_succ, List.set_cons_zero, List.set_cons_succ, if_true, if_false, Bool.false_eq_true, decide_eq_true_eq, decide_true, decide_false, Bool.not_true, Bool.not_false, Bool.or_true, Bool.true_or, Bool.or_false, Bool.false_or, exists_eq_left', true_and, and_true, eq_self, List.length_cons, List.length_nil, List.take_length, fin_d, fin_t, Bool.not_eq_true', decide_eq_false_iff_not, and_self, Bool.true_eq_false, reduceCtorEq])
set_option maxHeartbeats 1000000 in
set_option exponentiation.threshold 2000 in
theorem b_met_in : ∀ (es : List EV) (s : ST) (Q : QE) (X : QX), es.length = d_met_in.np → sp_met_in es s Q X → denF T_met_in d_met_in es s Q X := by
  rintro es s Q X hl ⟨k, a, b, c, d, rfl, ⟨oa, oc, ⟨b0, bm⟩, d0, dm⟩, q⟩
  simp only [T_met_in, d_met_in, sp_divisor_in, sp_less_in, sp_is_multiple_in, sp_multiple_in, sp_over_in, sp_bezout_in, sp_times_in, sp_add_in, sp_rest_in, d_met_in_0]
  have ob : ok k 300 b := ⟨nk_of_nn b0, bm⟩
  have od : ok k 300 d := ⟨nk_of_nn d0, dm⟩
  have og := kGcd_le (k := k) b0 d0 bm dm
  have g0 := kGcd_nn (k := k) b0 d0
  have oap := ok_less oc oa
  walk_at "dm"
  refine ⟨⟨b0, d0, ob.sh (by decide), od.sh (by decide)⟩, ?_⟩
  simp only [d_met_in_1]
  walk_at "dm"
  refine ⟨⟨oc.1, oa.1⟩, ?_⟩
  simp only [d_met_in_2]
  walk_at "dm"
  refine ⟨⟨oap.1, g0, oap.sh (by decide), og.sh (by decide)⟩, ?_⟩
  unfold kMet at q
  by_cases z : kRest k (kLess k c a) (kGcd k b d) = 0
  · rw [if_pos z] at q
    simp only [z, decide_true, Bool.not_true, Bool.false_eq_true, if_false, not_true]
    simp only [d_met_in_3]
    walk_at "dm"
    refine ⟨⟨b0, d0, ob.sh (by decide), od.sh (by decide)⟩, ?_⟩
    simp only [d_met_in_4]
    walk_at "dm"
    by_cases zb : b = 0
    · rw [if_pos (.inl zb), if_pos zb] at q
      rw [if_pos zb, if_pos zb]
      exact q
    · rw [if_neg zb]
      by_cases zd : d = 0
      · rw [if_pos (.inr zd), if_neg zb] at q
        rw [if_pos zd, if_neg zb]
        exact q
      · rw [if_neg zd]
        have zz : ¬(b = 0 ∨ d = 0) := fun h => h.elim zb zd
        rw [if_neg zz] at q
        have hg1 : 1 ≤ kGcd k b d := by
          have : kGcd k b d ≠ 0 := fun e => zb ((kGcd_eq_zero b0 d0).mp e).1
          omega
        have oq := ok_quo oap hg1
        have obz := kBz_ok (k := k) b0 d0 dm
        have ost := ok_times oq obz
        have obs := ok_times ob ost
        have ofd := ok_add (oa.mono (show 300 ≤ 300 + (300 + 1 + (300 + 1)) by decide)) obs
        have olc : ok k 600 (kLcm k b d) := by
          rw [kLcm_go b0 d0 zz]
          exact ok_times (ok_quo ob hg1) od
        have l0 : 0 ≤ kLcm k b d := by
          cases k
          · exact cn_lc (α := Int) b0 d0
          · exact Int.natCast_nonneg _
        simp only [d_met_in_5]
        walk_at "dm"
        refine ⟨⟨oap.1, hg1, oap.sh (by decide), og.sh (by decide)⟩, ⟨b0, d0, (ob.mono (by decide) : ok k 400 b).2, (od.mono (by decide) : ok k 400 d).2⟩, ⟨⟨oq.1, obz.1⟩, oq.sh (by decide), obz.sh (by decide)⟩, ?_⟩
        simp only [d_met_in_6]
        walk_at "dm"
        have fin_ : ∀ (v : Int), v = kTimes k b (kTimes k (kQuo k (kLess k c a) (kGcd k b d)) (kBz k b d 1 0)) → nk k v ∧ kAdd k a v = kAdd k a (kTimes k b (kTimes k (kQuo k (kLess k c a) (kGcd k b d)) (kBz k b d 1 0))) := by
          rintro v rfl
          exact ⟨obs.1, rfl⟩
        cases k
        · rw [if_pos kS_h]
          refine ⟨⟨⟨ob.1, ost.1⟩, ob.sh (by decide), ost.sh (by decide)⟩, ⟨oa.1, obs.1⟩, ?_⟩
          simp only [d_met_in_7]
          walk_at "dm"
          exact ⟨⟨ofd.1, l0, ofd.sh (by decide), olc.sh (by decide)⟩, q⟩
        · rw [if_neg (by rw [kS_b, bits_hours]; exact id)]
          rw [kTimes_comm .b _ b]
          refine ⟨⟨⟨ost.1, ob.1⟩, ost.sh (by decide), ob.sh (by decide)⟩, ⟨oa.1, obs.1⟩, ?_⟩
          simp only [d_met_in_7]
          walk_at "dm"
          exact ⟨⟨ofd.1, l0, ofd.sh (by decide), olc.sh (by decide)⟩, q⟩
  · rw [if_neg z] at q
    rw [if_pos z]
    exact q
end Gen

namespace Eud
open Gen
section
variable {α : Type} [Eu α] {k : Kd}
theorem em_inj (M : Em α k) {a b : Int} (ha : nk k a) (hb : nk k b) (h : M.up a = M.up b) : a = b := by
  rw [← M.du a ha, h, M.du b hb]
theorem em_z (M : Em α k) {a : Int} (ha : nk k a) : a = 0 ↔ M.up a = 0 := by
  constructor
  · rintro rfl; exact M.zero
  · intro h
    exact em_inj M ha (nk_of_nn (by decide)) (h.trans M.zero.symm)
/-- a rest is nothing exactly if it divides -/
theorem em_rest (M : Em α k) {a b : Int} (ha : nk k a) (hb : 0 ≤ b) : kRest k a b = 0 ↔ kDvd k b a := by
  rw [M.dvd]
  unfold kRest
  by_cases h : b = 0
  · rw [if_pos h, em_z M ha]
    have e : M.up b = 0 := (em_z M (nk_of_nn hb)).mp h
    rw [e]
    constructor
    · intro e2; rw [e2]; exact dvd_refl 0
    · exact zero_dvd
  · rw [if_neg h, M.mod a b ha (by omega), em_z M (M.nkd _), M.ud]
    exact rem_zero fun e => h ((em_z M (nk_of_nn hb)).mpr e)
theorem em_rest_up (M : Em α k) {a b : Int} (ha : nk k a) (hb : 0 ≤ b) : dvd (M.up b) (M.up a - M.up (kRest k a b)) := by
  unfold kRest
  by_cases h : b = 0
  · rw [if_pos h]
    exact ⟨0, by grind⟩
  · rw [if_neg h, M.mod a b ha (by omega), M.ud]
    have := Eu.dv (M.up a) (M.up b) (fun e => h ((em_z M (nk_of_nn hb)).mpr e))
    exact ⟨Eu.quo (M.up a) (M.up b), by grind⟩
theorem em_met (M : Em α k) {a b c d : Int} (ha : nk k a) (hb : 0 ≤ b) (hc : nk k c) (hd : 0 ≤ d) :
    (kMet k a b c d = .none ∧ ∀ v, nk k v → ¬(kDvd k b (kLess k v a) ∧ kDvd k d (kLess k v c))) ∨
    ∃ x, kMet k a b c d = .tuple [.int x, .int (kLcm k b d)] ∧ nk k x ∧ (kDvd k b (kLess k x a) ∧ kDvd k d (kLess k x c)) ∧ (b ≠ 0 → d ≠ 0 → ∃ y, nk k y ∧ x = kRest k y (kLcm k b d)) := by
  have nb := nk_of_nn (k := k) hb
  have nd := nk_of_nn (k := k) hd
  have g0 := kGcd_nn (k := k) hb hd
  have nl : nk k (kLess k c a) := by rw [M.less c a hc ha]; exact M.nkd _
  have hz : kRest k (kLess k c a) (kGcd k b d) = 0 ↔ dvd (eg (M.up b) (M.up d)) (M.up c - M.up a) := by
    rw [em_rest M nl g0, M.dvd, M.less c a hc ha, M.ud, M.gcd b d nb nd, M.ud]
  have hkd : ∀ v w e : Int, nk k v → nk k w → (kDvd k e (kLess k v w) ↔ dvd (M.up e) (M.up v - M.up w)) := by
    intro v w e hv hw
    rw [M.dvd, M.less v w hv hw, M.ud]
  unfold kMet
  by_cases z : kRest k (kLess k c a) (kGcd k b d) = 0
  · rw [if_pos z]
    have zd := hz.mp z
    right
    by_cases zb : b = 0 ∨ d = 0
    · rw [if_pos zb, kLcm_zero zb]
      refine ⟨_, rfl, ?_, ?_, fun h1 h2 => (zb.elim h1 h2).elim⟩
      · by_cases z1 : b = 0
        · rw [if_pos z1]; exact ha
        · rw [if_neg z1]; exact hc
      · by_cases z1 : b = 0
        · rw [if_pos z1, hkd _ _ _ ha ha, hkd _ _ _ ha hc]
          refine ⟨⟨0, by grind⟩, ?_⟩
          have e : M.up b = 0 := (em_z M nb).mp z1
          have hg : dvd (M.up d) (eg (M.up b) (M.up d)) := eg_max (by rw [e]; exact dvd_zero _) (dvd_refl _)
          have := (hg.trans zd).neg
          rw [show M.up a - M.up c = -(M.up c - M.up a) by grind]
          exact this
        · have z2 : d = 0 := zb.resolve_left z1
          rw [if_neg z1, hkd _ _ _ hc ha, hkd _ _ _ hc hc]
          have e : M.up d = 0 := (em_z M nd).mp z2
          refine ⟨?_, ⟨0, by grind⟩⟩
          have hg : dvd (M.up b) (eg (M.up b) (M.up d)) := eg_max (dvd_refl _) (by rw [e]; exact dvd_zero _)
          exact hg.trans zd
    · rw [if_neg zb]
      have zb1 : b ≠ 0 := fun e => zb (.inl e)
      have zd1 : d ≠ 0 := fun e => zb (.inr e)
      have ub : M.up b ≠ 0 := fun e => zb1 ((em_z M nb).mpr e)
      have hg0 : eg (M.up b) (M.up d) ≠ 0 := fun e => ub (eg_eq_zero.mp e).1
      have hg1 : 1 ≤ kGcd k b d := by
        have : kGcd k b d ≠ 0 := fun e => zb1 ((kGcd_eq_zero hb hd).mp e).1
        omega
      have eq1 : kQuo k (kLess k c a) (kGcd k b d) = M.dn (Eu.quo (M.up c - M.up a) (eg (M.up b) (M.up d))) := by
        rw [M.quo _ _ nl hg1, M.less c a hc ha, M.ud, M.gcd b d nb nd, M.ud]
      have eq2 : kBz k b d 1 0 = M.dn (bz (M.up b) (M.up d) 1 0) := by
        rw [M.bz b d 1 0 nb nd (nk_of_nn (by decide)) (nk_of_nn (by decide)), M.one, M.zero]
      have eq3 : kTimes k (kQuo k (kLess k c a) (kGcd k b d)) (kBz k b d 1 0) = M.dn (Eu.quo (M.up c - M.up a) (eg (M.up b) (M.up d)) * bz (M.up b) (M.up d) 1 0) := by
        rw [eq1, eq2, M.times _ _ (M.nkd _) (M.nkd _), M.ud, M.ud]
      have eq4 : kTimes k b (kTimes k (kQuo k (kLess k c a) (kGcd k b d)) (kBz k b d 1 0)) = M.dn (M.up b * (Eu.quo (M.up c - M.up a) (eg (M.up b) (M.up d)) * bz (M.up b) (M.up d) 1 0)) := by
        rw [eq3, M.times _ _ nb (M.nkd _), M.ud]
      have eq5 : kAdd k a (kTimes k b (kTimes k (kQuo k (kLess k c a) (kGcd k b d)) (kBz k b d 1 0))) = M.dn (M.up a + M.up b * (Eu.quo (M.up c - M.up a) (eg (M.up b) (M.up d)) * bz (M.up b) (M.up d) 1 0)) := by
        rw [eq4, M.add _ _ ha (M.nkd _), M.ud]
      have l0 : 0 ≤ kLcm k b d := by
        rw [M.lcm b d nb nd]
        refine (M.cnn _ (M.nkd _)).mpr ?_
        rw [M.ud]
        exact cn_lc ((M.cnn b nb).mp hb) ((M.cnn d nd).mp hd)
      generalize hy : kAdd k a (kTimes k b (kTimes k (kQuo k (kLess k c a) (kGcd k b d)) (kBz k b d 1 0))) = y at *
      have ny : nk k y := by rw [eq5]; exact M.nkd _
      have nr : nk k (kRest k y (kLcm k b d)) := by
        unfold kRest
        by_cases h : kLcm k b d = 0
        · rw [if_pos h]; exact ny
        · rw [if_neg h, M.mod _ _ ny (by omega)]; exact M.nkd _
      refine ⟨_, rfl, nr, ?_, fun _ _ => ⟨y, ny, rfl⟩⟩
      have hr := em_rest_up M ny l0
      rw [M.lcm b d nb nd, M.ud] at hr
      rw [← M.lcm b d nb nd] at hr
      have uy : M.up y = M.up a + M.up b * (Eu.quo (M.up c - M.up a) (eg (M.up b) (M.up d)) * bz (M.up b) (M.up d) 1 0) := by rw [eq5, M.ud]
      obtain ⟨q, hq⟩ := zd
      have hqq := quo_of hg0 hq
      rw [hqq] at uy
      have hbz := bz_bez (M.up b) (M.up d)
      rw [hkd _ _ _ nr ha, hkd _ _ _ nr hc]
      constructor
      · have h1 := (lc_left (a := M.up b) (b := M.up d)).trans hr
        rw [show M.up (kRest k y (kLcm k b d)) - M.up a = (M.up y - M.up a) - (M.up y - M.up (kRest k y (kLcm k b d))) by grind]
        exact dvd.sub ⟨q * bz (M.up b) (M.up d) 1 0, by rw [uy]; grind⟩ h1
      · have h1 := (lc_right (a := M.up b) (b := M.up d)).trans hr
        rw [show M.up (kRest k y (kLcm k b d)) - M.up c = (M.up y - M.up c) - (M.up y - M.up (kRest k y (kLcm k b d))) by grind]
        refine dvd.sub ?_ h1
        have : M.up y - M.up c = -((eg (M.up b) (M.up d) - M.up b * bz (M.up b) (M.up d) 1 0) * q) := by rw [uy]; grind
        rw [this]
        exact (hbz.mul q).neg
  · rw [if_neg z]
    left
    refine ⟨rfl, fun v hv h => z (hz.mpr ?_)⟩
    rw [hkd _ _ _ hv ha, hkd _ _ _ hv hc] at h
    exact met_iff.mp ⟨M.up v, h⟩
end
end Eud

namespace Gen
open PySem PySem.Spec PyProof.Rows L2 Mini
open Eud
/-! ### things: an hour and a period -/
abbrev Th := Int × Int
def eT (t : Th) : PyData := .tuple [.int t.1, .int t.2]
def eTs (l : List Th) : PyData := .list (l.map eT)
def goodT (l : List Th) : Prop := (∀ t ∈ l, 1 ≤ t.2 ∧ t.1.natAbs < 2 ^ 250) ∧ (l.map fun t => t.2.natAbs).foldl (· * ·) 1 < 2 ^ 250 ∧ l.length ≤ 1000
def fitsAll (l : List Th) (v : Int) : Prop := ∀ t ∈ l, t.2 ∣ v - t.1
def TG (l : List Th) (r : PyData) : Prop := (r = .none ∧ ∀ v, ¬ fitsAll l v) ∨ ∃ x m : Int, r = .tuple [.int x, .int m] ∧ 0 ≤ x ∧ x < m ∧ m.natAbs ≤ (l.map fun t => t.2.natAbs).foldl (· * ·) 1 ∧ ∀ v, fitsAll l v ↔ m ∣ v - x
def sp_thing_fits : Mini.Spec := fun es st Q _ => ∃ t : Th, es = [.d (eT t)] ∧ Q (.d (.bool (decide (1 ≤ t.2)))) st
def sp_check_things : Mini.Spec := fun es st Q _ => ∃ l : List Th, es = [.d (eTs l)] ∧ (∀ t ∈ l, 1 ≤ t.2) ∧ l.length ≤ 1000 ∧ Q (.d .none) st
/-- things whose rounds all divide a number that is not too great -/
def goodU (l : List Th) : Prop := (∀ t ∈ l, 1 ≤ t.2 ∧ t.1.natAbs < 2 ^ 250 ∧ t.2.natAbs < 2 ^ 250) ∧ (∃ L : Int, 0 < L ∧ L.natAbs < 2 ^ 250 ∧ ∀ t ∈ l, t.2 ∣ L) ∧ l.length ≤ 1000
theorem foldl_dvd : ∀ (l : List Nat) (a : Nat), a ∣ l.foldl (· * ·) a ∧ ∀ x ∈ l, x ∣ l.foldl (· * ·) a
  | [], a => ⟨Nat.dvd_refl _, fun _ h => nomatch h⟩
  | b :: r, a => by
    obtain ⟨h1, h2⟩ := foldl_dvd r (a * b)
    refine ⟨Nat.dvd_trans (Nat.dvd_mul_right a b) h1, fun x hx => ?_⟩
    rcases List.mem_cons.mp hx with rfl | hx
    · exact Nat.dvd_trans (Nat.dvd_mul_left x a) h1
    · exact h2 x hx
theorem foldl_ne : ∀ (l : List Nat) (a : Nat), 0 < a → (∀ x ∈ l, 0 < x) → 0 < l.foldl (· * ·) a
  | [], a, h, _ => h
  | b :: r, a, h, hx => foldl_ne r (a * b) (Nat.mul_pos h (hx b (List.mem_cons_self ..))) fun x h' => hx x (List.mem_cons_of_mem _ h')
theorem goodU_of {l : List Th} (g : goodT l) : goodU l := by
  obtain ⟨g1, g2, g3⟩ := g
  obtain ⟨d1, d2⟩ := foldl_dvd (l.map fun t => t.2.natAbs) 1
  have pos := foldl_ne (l.map fun t => t.2.natAbs) 1 (by decide) fun x hx => by
    obtain ⟨t, ht, rfl⟩ := List.mem_map.mp hx
    have := (g1 t ht).1
    show 0 < t.2.natAbs
    omega
  generalize (l.map fun t => t.2.natAbs).foldl (· * ·) 1 = p at *
  have hd : ∀ t ∈ l, t.2.natAbs ∣ p := fun t ht => d2 _ (List.mem_map.mpr ⟨t, ht, rfl⟩)
  refine ⟨fun t ht => ⟨(g1 t ht).1, (g1 t ht).2, Nat.lt_of_le_of_lt (Nat.le_of_dvd pos (hd t ht)) g2⟩, ⟨(p : Int), by omega, by simpa using g2, fun t ht => Int.natAbs_dvd_natAbs.mp (by simpa using hd t ht)⟩, g3⟩
def sp_together_in : Mini.Spec := fun es st Q _ => ∃ l : List Th, es = [.d (eTs l)] ∧ goodU l ∧ ∀ r, TG l r → Q (.d r) st
def sp_together : Mini.Spec := sp_together_in
theorem sp_thing_fits_at {t : Th} {st Q X} : sp_thing_fits [.d (eT t)] st Q X ↔ Q (.d (.bool (decide (1 ≤ t.2)))) st := by
  constructor
  · rintro ⟨t', e, q⟩
    simp only [eT, List.cons.injEq, EV.d.injEq, PyData.tuple.injEq, PyData.int.injEq, and_true] at e
    rw [e.2]; exact q
  · exact fun q => ⟨t, rfl, q⟩
theorem blt_len_t {xs : List PyData} : bltF .len [.tuple xs] = some (.int xs.length) := rfl
theorem isi_tt {xs : List PyData} : isiF (.tuple xs) "tuple" = some true := (by decide : kitB "tuple" "tuple" = some true)
theorem at20 {x y : PyData} : atI [x, y] 0 = some x := rfl
theorem at21 {x y : PyData} : atI [x, y] 1 = some y := rfl
theorem cmp_eq_none : cmpF .NotEq (.list []) (.list []) = some false := by decide +kernel
theorem wpe1 {a : Option EV} {v : Option EV} : (List.set (wipeE [a, none] [1]) 1 v) = [a, v] := rfl
theorem in_tup {xs : List PyData} : isNoneP (.tuple xs) = false := rfl
def prodT (l : List Th) : Nat := (l.map fun t => t.2.natAbs).foldl (· * ·) 1
theorem foldl_ge : ∀ (l : List Nat) (a : Nat), (∀ x ∈ l, 1 ≤ x) → a ≤ l.foldl (· * ·) a
  | [], a, _ => Nat.le_refl a
  | x :: l, a, h => by
    have h1 := h x (List.mem_cons_self ..)
    have := foldl_ge l (a * x) fun y hy => h y (List.mem_cons_of_mem _ hy)
    have h2 : a * 1 ≤ a * x := Nat.mul_le_mul_left _ h1
    show a ≤ List.foldl _ (a * x) l
    omega
theorem prodT_snoc (l : List Th) (t : Th) : prodT (l ++ [t]) = prodT l * t.2.natAbs := by
  simp [prodT, List.foldl_append]
theorem prodT_take {l : List Th} (h : ∀ t ∈ l, 1 ≤ t.2) (i : Nat) : prodT (l.take i) ≤ prodT l := by
  conv => rhs; rw [← List.take_append_drop i l]
  unfold prodT
  rw [List.map_append, List.foldl_append]
  refine foldl_ge _ _ fun x hx => ?_
  obtain ⟨t, ht, rfl⟩ := List.mem_map.mp hx
  have := h t (List.mem_of_mem_drop ht)
  omega
theorem prodT_pos {l : List Th} (h : ∀ t ∈ l, 1 ≤ t.2) : 1 ≤ prodT l := foldl_ge _ 1 fun x hx => by
  obtain ⟨t, ht, rfl⟩ := List.mem_map.mp hx
  have := h t ht
  omega
theorem prodT_mem {l : List Th} (h : ∀ t ∈ l, 1 ≤ t.2) {i : Nat} {t : Th} (e : l[i]? = some t) : t.2.natAbs ≤ prodT l := by
  have h1 := prodT_take h (i + 1)
  have h2 : l.take (i + 1) = l.take i ++ [t] := by rw [List.take_add_one, e]; rfl
  rw [h2, prodT_snoc] at h1
  have h3 := prodT_pos (l := l.take i) fun t ht => h t (List.mem_of_mem_take ht)
  have : 1 * t.2.natAbs ≤ prodT (l.take i) * t.2.natAbs := Nat.mul_le_mul_right _ h3
  omega
theorem TG_nil : TG [] (.tuple [.int 0, .int 1]) := .inr ⟨0, 1, rfl, by decide, by decide, by decide, fun v => ⟨fun _ => ⟨v, by omega⟩, fun _ t ht => nomatch ht⟩⟩
theorem fits_snoc {l : List Th} {t : Th} {v : Int} : fitsAll (l ++ [t]) v ↔ fitsAll l v ∧ t.2 ∣ v - t.1 := by
  constructor
  · intro h
    exact ⟨fun u hu => h u (List.mem_append_left _ hu), h t (by simp)⟩
  · rintro ⟨h1, h2⟩ u hu
    rcases List.mem_append.mp hu with hu | hu
    · exact h1 u hu
    · have := List.mem_singleton.mp hu
      subst this
      exact h2
theorem TG_step {l : List Th} {t : Th} {x m : Int} (h0 : 0 ≤ x) (h1 : x < m) (hm : m.natAbs ≤ prodT l) (ht : 1 ≤ t.2) (hv : ∀ v, fitsAll l v ↔ m ∣ v - x) : TG (l ++ [t]) (kMet .h x m (kRest .h t.1 t.2) t.2) := by
  have hm0 : 0 ≤ m := by omega
  have hr : kRest .h t.1 t.2 = t.1 % t.2 := by
    show (if t.2 = 0 then t.1 else t.1 % t.2) = _
    rw [if_neg (by omega)]
  have hd : ∀ v, t.2 ∣ v - kRest .h t.1 t.2 ↔ t.2 ∣ v - t.1 := by
    intro v
    rw [hr]
    have e := Int.mul_ediv_add_emod t.1 t.2
    have e2 : v - t.1 % t.2 = (v - t.1) + t.2 * (t.1 / t.2) := by omega
    rw [e2]
    exact ⟨fun h => by have := Int.dvd_sub h (Int.dvd_mul_right t.2 (t.1 / t.2)); rwa [Int.add_sub_cancel] at this, fun h => Int.dvd_add h (Int.dvd_mul_right _ _)⟩
  rcases em_met emH (a := x) (b := m) (c := kRest .h t.1 t.2) (d := t.2) trivial hm0 trivial (by omega) with ⟨h2, h3⟩ | ⟨y, h2, _, h3, h4⟩
  · left
    refine ⟨h2, fun v hf => ?_⟩
    obtain ⟨f1, f2⟩ := fits_snoc.mp hf
    exact h3 v trivial ⟨(hv v).mp f1, (hd v).mpr f2⟩
  · right
    obtain ⟨z, _, hz⟩ := h4 (by omega) (by omega)
    have hl0 : 0 ≤ kLcm .h m t.2 := cn_lc (α := Int) hm0 (show (0 : Int) ≤ t.2 by omega)
    have hg := lc_law (α := Int) (a := m) (b := t.2)
    have hgp : 0 ≤ (eg m t.2 : Int) := cn_eg (α := Int) hm0 (show (0 : Int) ≤ t.2 by omega)
    have hgl : (eg m t.2 : Int) * kLcm .h m t.2 = m * t.2 := hg
    have hmt : 0 < m * t.2 := Int.mul_pos (by omega) (by omega)
    have hg0 : (eg m t.2 : Int) ≠ 0 := by
      intro e; rw [e, Int.zero_mul] at hgl; omega
    have hl1 : kLcm .h m t.2 ≠ 0 := by
      intro e; rw [e, Int.mul_zero] at hgl; omega
    have hle : kLcm .h m t.2 ≤ m * t.2 := by
      rw [← hgl]
      have := Int.mul_le_mul_of_nonneg_right (show 1 ≤ (eg m t.2 : Int) by omega) hl0
      omega
    refine ⟨y, kLcm .h m t.2, h2, ?_, ?_, ?_, fun v => ?_⟩
    · rw [hz]
      show 0 ≤ (if kLcm .h m t.2 = 0 then z else z % kLcm .h m t.2)
      rw [if_neg hl1]
      exact Int.emod_nonneg _ hl1
    · rw [hz]
      show (if kLcm .h m t.2 = 0 then z else z % kLcm .h m t.2) < _
      rw [if_neg hl1]
      exact Int.emod_lt_of_pos _ (by omega)
    · show _ ≤ prodT (l ++ [t])
      rw [prodT_snoc]
      have e : (m * t.2).natAbs = m.natAbs * t.2.natAbs := Int.natAbs_mul _ _
      have : m.natAbs * t.2.natAbs ≤ prodT l * t.2.natAbs := Nat.mul_le_mul_right _ hm
      omega
    · rw [fits_snoc, hv, ← hd v]
      exact met_all (α := Int) (b := m) (c := t.2) h3.1 h3.2
def N_thing_fits : List Str := ["value"]
@[simp] def d_thing_fits : Def := ⟨1, 1, 0,
  (.cons (.ite (.bop .Or (.cons (.un .Not (.isi (.var 0) "tuple")) (.cons (.cmp .NotEq (.blt .len (.cons (.var 0) .nil)) (.cst (.int 2))) (.cons (.un .Not (.call 0 (.cons (.idx (.var 0) (.cst (.int 0))) .nil))) (.cons (.un .Not (.call 0 (.cons (.idx (.var 0) (.cst (.int 1))) .nil))) .nil))))) (.cons (.ret (.cst (.bool false))) .nil) .nil) (.cons (.ret (.cmp .GtE (.idx (.var 0) (.cst (.int 1))) (.cst (.int 1)))) .nil))⟩
@[simp] def T_thing_fits : Tab := ⟨[("is_whole", 1, sp_is_whole)], [], ["isinstance", "tuple", "len"]⟩
def N_check_things : List Str := ["things", "item"]
@[simp] def d_check_things : Def := ⟨1, 2, 0,
  (.cons (.ite (.bop .Or (.cons (.un .Not (.isi (.var 0) "list")) (.cons (.cmp .NotEq (.comp [("item", 1)] (.var 1) (.dat (.var 0)) (.some (.un .Not (.call 0 (.cons (.var 1) .nil)))) (.var 1)) (.lst false .nil)) .nil))) (.cons .stuck .nil) .nil) .nil)⟩
@[simp] def T_check_things : Tab := ⟨[("thing_fits", 1, sp_thing_fits)], [], ["isinstance", "list"]⟩
def N_together_in : List Str := ["things", "found", "hour", "every"]
@[simp] def d_together_in : Def := ⟨1, 4, 0,
  (.cons (.asg (.var 1) (.tup (.cons (.cst (.int 0)) (.cons (.cst (.int 1)) .nil)))) (.cons (.for_ (.tup (.cons (.var 2) (.cons (.var 3) .nil))) (.dat (.var 0)) (.cons (.ite (.isc true (.var 1) .none) (.cons (.asg (.var 1) (.call 0 (.cons (.cst (.str "hours")) (.cons (.idx (.var 1) (.cst (.int 0))) (.cons (.idx (.var 1) (.cst (.int 1))) (.cons (.call 1 (.cons (.cst (.str "hours")) (.cons (.var 2) (.cons (.var 3) .nil)))) (.cons (.var 3) .nil))))))) .nil) .nil) .nil)) (.cons (.ret (.var 1)) .nil)))⟩
@[simp] def T_together_in : Tab := ⟨[("met_in", 5, sp_met_in), ("rest_in", 3, sp_rest_in)], [], []⟩
def N_together : List Str := ["things"]
@[simp] def d_together : Def := ⟨1, 1, 0,
  (.cons (.expr (.call 0 (.cons (.var 0) .nil))) (.cons (.ret (.call 1 (.cons (.var 0) .nil))) .nil))⟩
@[simp] def T_together : Tab := ⟨[("check_things", 1, sp_check_things), ("together_in", 1, sp_together_in)], [], []⟩
local macro_rules
  | `(tactic| walk_at "dn") => `(tactic| simp only [denF, denB, denS, den, denL, denO, denI, denC, DE.of, testOf, boolOf, strict1, strict2, ex_eq_some, ex_ss, ex_di, ex_none, ex_call, ex_look2, ex_look1, ex_tru, some_if, some_map, map_some, looks_nil, looks_d, datas_nil, datas_d, ex_some2, tru_none, tru_bool, tru_int, tru_list, cmp_eq_int, cmp_ne_int, cmp_lt, cmp_le, cmp_gt, cmp_ge, cmp_eq_str, cmp_ne_str, op_add, op_sub, op_mul, op_fdv, op_mod, op_pow, op_shl, op_shr, op_and, op_or, op_xor, op_cat, un_neg, is_none, in_none, in_int, in_str, in_list, blt_len, blt_int, blt_abs, blt_max, blt_min, blt_repr, blt_sum, isi_int_int, isi_int_bool, isi_int_str, isi_str_str, isi_str_int, isi_str_bool, isi_bool_bool, isi_bool_int, isi_none_int, isi_none_str, isi_list_list, isi_list_int, isi_list_str, idx_list, idx_tuple, in2, spI1_at, spD_at, spKD_at, spKD_h, spKD_b, isW_int, isC_int, isN_int, isN_h, isN_b, sp_check_number_at, spK0_at, spK0_h, spK0_b, spK1_at, spK1_h, spK1_b, spK2_at, spK2_h, spK2_b, nk, kS_h, kS_b, l2, hours_bits, bits_hours, List.map_cons, List.map_nil, List.cons_append, List.nil_append, List.replicate_succ, List.replicate_zero, Nat.reduceSub, Nat.reduceAdd, List.getElem?_cons_zero, List.getElem?_cons_succ, List.set_cons_zero, List.set_cons_succ, if_true, if_false, Bool.false_eq_true, decide_eq_true_eq, decide_true, decide_false, Bool.not_true, Bool.not_false, Bool.or_true, Bool.true_or, Bool.or_false, Bool.false_or, exists_eq_left', true_and, and_true, eq_self, List.length_cons, List.length_nil, List.take_length, fin_d, fin_t, Bool.not_eq_true', decide_eq_false_iff_not, and_self, Bool.true_eq_false, reduceCtorEq])
local macro_rules
  | `(tactic| walk_at "dm") => `(tactic| simp only [denF, denB, denS, den, denL, denO, denI, denC, DE.of, testOf, boolOf, strict1, strict2, ex_eq_some, ex_ss, ex_di, ex_none, ex_call, ex_look2, ex_look1, ex_tru, some_if, some_map, map_some, looks_nil, looks_d, datas_nil, datas_d, ex_some2, tru_none, tru_bool, tru_int, tru_list, cmp_eq_int, cmp_ne_int, cmp_lt, cmp_le, cmp_gt, cmp_ge, cmp_eq_str, cmp_ne_str, op_add, op_sub, op_mul, op_fdv, op_mod, op_pow, op_shl, op_shr, op_and, op_or, op_xor, op_cat, un_neg, is_none, in_none, in_int, in_str, in_list, blt_len, blt_int, blt_abs, blt_max, blt_min, blt_repr, blt_sum, isi_int_int, isi_int_bool, isi_int_str, isi_str_str, isi_str_int, isi_str_bool, isi_bool_bool, isi_bool_int, isi_none_int, isi_none_str, isi_list_list, isi_list_int, isi_list_str, idx_list, idx_tuple, in2, spI1_at, spD_at, spKD_at, spKD_h, spKD_b, isW_int, isC_int, isN_int, isN_h, isN_b, sp_check_number_at, spK0_at, spK0_h, spK0_b, spK1_at, spK1_h, spK1_b, spK2_at, spK2_h, spK2_b, kS_h, kS_b, l2, hours_bits, bits_hours, List.map_cons, List.map_nil, List.cons_append, List.nil_append, List.replicate_succ, List.replicate_zero, Nat.reduceSub, Nat.reduceAdd, List.getElem?_cons_zero, List.getElem?_cons_succ, List.set_cons_zero, List.set_cons_succ, if_true, if_false, Bool.false_eq_true, decide_eq_true_eq, decide_true, decide_false, Bool.not_true, Bool.not_false, Bool.or_true, Bool.true_or, Bool.or_false, Bool.false_or, exists_eq_left', true_and, and_true, eq_self, List.length_cons, List.length_nil, List.take_length, fin_d, fin_t, Bool.not_eq_true', decide_eq_false_iff_not, and_self, Bool.true_eq_false, reduceCtorEq])
local macro_rules
  | `(tactic| walk_at "dx") => `(tactic| ((try simp only [blt_len_t, isi_tt, at20, at21, ex_eq_some, cmp_eq_none, sp_thing_fits_at]); walk_at "dm"))
theorem b_thing_fits : ∀ (es : List EV) (s : ST) (Q : QE) (X : QX), es.length = d_thing_fits.np → sp_thing_fits es s Q X → denF T_thing_fits d_thing_fits es s Q X := by
  rintro es s Q X hl ⟨⟨h, e⟩, rfl, q⟩
  simp only [T_thing_fits, d_thing_fits, sp_is_whole, eT]
  walk_at "dm"
  walk_at "dx"
  rw [if_neg (by simp)]
  exact q
theorem b_check_things : ∀ (es : List EV) (s : ST) (Q : QE) (X : QX), es.length = d_check_things.np → sp_check_things es s Q X → denF T_check_things d_check_things es s Q X := by
  rintro es s Q X hl ⟨l, rfl, hl1, hl2, q⟩
  simp only [T_check_things, d_check_things, eTs]
  walk_at "dm"
  refine compGo_pure (fun x => match x with | .tuple [_, .int e] => !decide (1 ≤ e) | _ => false) id (by simp [line]; omega) trivial ?_ ?_
  · intro x hx
    obtain ⟨t, ht, rfl⟩ := List.mem_map.mp hx
    refine ⟨_, rfl, ?_, ?_⟩
    · intro R hR
      refine ⟨_, rfl, ?_⟩
      rw [sp_thing_fits_at]
      walk_at "dm"
      exact hR
    · intro _ R hR
      exact ⟨_, rfl, hR⟩
  · rw [List.filter_eq_nil_iff.mpr]
    · walk_at "dm"
      refine ⟨Nat.zero_le _, ?_⟩
      refine ⟨_, cmp_eq_none, ?_⟩
      rw [if_neg (by simp)]
      exact q
    · intro x hx
      obtain ⟨t, ht, rfl⟩ := List.mem_map.mp hx
      have := hl1 t ht
      simp [eT, this]
theorem sp_check_things_at {l : List Th} {st Q X} : sp_check_things [.d (eTs l)] st Q X ↔ (∀ t ∈ l, 1 ≤ t.2) ∧ l.length ≤ 1000 ∧ Q (.d .none) st := by
  constructor
  · rintro ⟨l', e, p, p2, q⟩
    have hinj : l = l' := by
      simp only [eTs, List.cons.injEq, EV.d.injEq, PyData.list.injEq, and_true] at e
      exact List.map_inj_right (f := eT) (fun a b h => by
        simp only [eT, PyData.tuple.injEq, List.cons.injEq, PyData.int.injEq, and_true] at h
        exact Prod.ext h.1 h.2) |>.mp e
    subst hinj
    exact ⟨p, p2, q⟩
  · rintro ⟨p, p2, q⟩
    exact ⟨l, rfl, p, p2, q⟩
theorem b_together : ∀ (es : List EV) (s : ST) (Q : QE) (X : QX), es.length = d_together.np → sp_together es s Q X → denF T_together d_together es s Q X := by
  rintro es s Q X hl ⟨l, rfl, g, q⟩
  simp only [T_together, d_together]
  walk_at "dm"
  rw [sp_check_things_at]
  refine ⟨fun t ht => (g.1 t ht).1, g.2.2, ?_⟩
  refine ⟨l, rfl, g, fun r hr => ?_⟩
  walk_at "dm"
  exact q r hr
set_option exponentiation.threshold 2000 in
theorem b_together_in : ∀ (es : List EV) (s : ST) (Q : QE) (X : QX), es.length = d_together_in.np → sp_together_in es s Q X → denF T_together_in d_together_in es s Q X := by
  rintro es s Q X hl ⟨l, rfl, ⟨g1, ⟨L, L0, L1, L2⟩, g3⟩, q⟩
  simp only [T_together_in, d_together_in, sp_rest_in, eTs]
  walk_at "dm"
  have hp1 : ∀ t ∈ l, 1 ≤ t.2 := fun t ht => (g1 t ht).1
  refine forGo_ind (fun i env st => st = s ∧ ∃ (r : PyData) (q2 q3 : Option EV), env = [some (.d (.list (l.map eT))), some (.d r), q2, q3] ∧ TG (l.take i) r) _ ?_ ?_ ⟨rfl, _, none, none, rfl, TG_nil⟩
  · rintro i x hx env st ⟨rfl, r, q2, q3, rfl, hT⟩ k' e1 e2 e3 hn hc
    rw [List.getElem?_map] at hx
    obtain ⟨t, ht, rfl⟩ := Option.map_eq_some_iff.mp hx
    have et : l.take (i + 1) = l.take i ++ [t] := by rw [List.take_add_one, ht]; rfl
    have t1 := g1 t (List.mem_of_getElem? ht)
    refine ⟨_, rfl, ?_⟩
    walk_at "dm"
    rcases hT with ⟨rfl, hno⟩ | ⟨x, m, rfl, h0, h1, h2, h3⟩
    · walk_at "dm"
      refine hn _ _ trivial ⟨rfl, .none, _, _, rfl, .inl ⟨rfl, fun v hf => ?_⟩⟩
      rw [et] at hf
      exact hno v (fits_snoc.mp hf).1
    · simp only [in_tup]
      walk_at "dm"
      have hmL : m ∣ L := by
        have f1 : fitsAll (l.take i) x := (h3 x).mpr (by simp)
        have f2 : fitsAll (l.take i) (x + L) := fun t ht => by
          have e : x + L - t.1 = (x - t.1) + L := by omega
          rw [e]
          exact Int.dvd_add (f1 t ht) (L2 t (List.mem_of_mem_take ht))
        have := (h3 (x + L)).mp f2
        rwa [show x + L - x = L by omega] at this
      have b1 : m.natAbs < 2 ^ 250 := by
        have := Int.le_of_dvd L0 hmL
        omega
      have b2 : t.2.natAbs < 2 ^ 250 := t1.2.2
      have hr : kRest .h t.1 t.2 = t.1 % t.2 := by
        show (if t.2 = 0 then t.1 else t.1 % t.2) = _
        rw [if_neg (by omega)]
      have r1 := Int.emod_nonneg t.1 (show t.2 ≠ 0 by omega)
      have r2 := Int.emod_lt_of_pos t.1 (show 0 < t.2 by omega)
      have P : (2 : Nat) ^ 250 ≤ 2 ^ 300 := Nat.pow_le_pow_right (by decide) (by decide)
      have ot1 : ok .h 250 t.1 := ⟨trivial, t1.2.1⟩
      have ot2 : ok .h 250 t.2 := ⟨trivial, b2⟩
      refine ⟨_, rfl, _, rfl, ⟨trivial, by omega, ot1.sh (by decide), ot2.sh (by decide)⟩, ?_⟩
      refine (sp_met_in_at (k := .h)).mpr ⟨⟨⟨trivial, by omega⟩, ⟨trivial, by rw [hr]; omega⟩, ⟨by omega, by omega⟩, by omega, by omega⟩, ?_⟩
      refine hn _ _ trivial ⟨rfl, _, _, _, rfl, ?_⟩
      rw [et]
      exact TG_step h0 h1 h2 t1.1 h3
  · rintro env st ⟨rfl, r, q2, q3, rfl, hT⟩
    rw [List.length_map, List.take_length] at hT
    walk_at "dm"
    exact q r hT
end Gen

namespace Gen
open PySem PySem.Spec PyProof.Rows L2 Mini Eud
theorem cut_take {xs : List PyData} {j : Nat} (h : j ≤ xs.length) : cutP xs none (some (j : Int)) = xs.take j := by
  unfold cutP
  rw [HT.sIx_none, HT.sIx_nat, Nat.min_eq_left h, Nat.sub_zero, List.drop_zero]
theorem cut_drop {xs : List PyData} {j : Nat} (h : j ≤ xs.length) : cutP xs (some (j : Int)) none = xs.drop j := by
  unfold cutP
  rw [HT.sIx_none, HT.sIx_nat, Nat.min_eq_left h, List.take_of_length_le (by simp)]
theorem atI_nat {xs : List PyData} {j : Nat} (h : j < xs.length) : atI xs (j : Int) = some xs[j] := by
  unfold atI L2.ixN
  rw [if_pos (by omega), if_pos (by omega), Option.bind_some, Int.toNat_natCast, List.getElem?_eq_getElem h]
theorem foldl_mono : ∀ (l : List Nat) (a b : Nat), a ≤ b → l.foldl (· * ·) a ≤ l.foldl (· * ·) b
  | [], a, b, h => h
  | x :: l, a, b, h => foldl_mono l (a * x) (b * x) (Nat.mul_le_mul_right _ h)
def without (l : List Th) (j : Nat) : List Th := l.take j ++ l.drop (j + 1)
theorem goodT_without {l : List Th} {j : Nat} (h : goodT l) (hj : j < l.length) : goodT (without l j) := by
  obtain ⟨h1, h2, h3⟩ := h
  have mem : ∀ t ∈ without l j, t ∈ l := fun t ht => (List.mem_append.mp ht).elim List.mem_of_mem_take List.mem_of_mem_drop
  refine ⟨fun t ht => h1 t (mem t ht), Nat.lt_of_le_of_lt ?_ h2, ?_⟩
  · have e : l = l.take j ++ (l[j] :: l.drop (j + 1)) := by rw [← List.drop_eq_getElem_cons hj, List.take_append_drop]
    have e2 : (l.map fun t => t.2.natAbs).foldl (· * ·) 1 = ((l.drop (j + 1)).map fun t => t.2.natAbs).foldl (· * ·) (((l.take j).map fun t => t.2.natAbs).foldl (· * ·) 1 * l[j].2.natAbs) := by
      conv => lhs; rw [e]
      rw [List.map_append, List.foldl_append]
      rfl
    rw [e2]
    unfold without
    rw [List.map_append, List.foldl_append]
    refine foldl_mono _ _ _ ?_
    have := (h1 l[j] (List.getElem_mem hj)).1
    have h5 : ((l.take j).map fun t => t.2.natAbs).foldl (· * ·) 1 * 1 ≤ ((l.take j).map fun t => t.2.natAbs).foldl (· * ·) 1 * l[j].2.natAbs := Nat.mul_le_mul_left _ (by omega)
    omega
  · unfold without
    simp only [List.length_append, List.length_take, List.length_drop]
    omega
/-- what is told of a thing put off -/
def SH (l : List Th) (j : Nat) (t : Th) (r : PyData) : Prop :=
  (r = .none ∧ ∀ s : Int, ¬ ∃ v, fitsAll (without l j) v ∧ t.2 ∣ v - (t.1 + s)) ∨
  ∃ a g : Int, r = .tuple [.int a, .int g] ∧ 0 ≤ a ∧ a < g ∧ g ∣ t.2 ∧ ∀ s : Int, (∃ v, fitsAll (without l j) v ∧ t.2 ∣ v - (t.1 + s)) ↔ g ∣ s - a
def sp_shifts : Mini.Spec := fun es st Q _ => ∃ (l : List Th) (j : Nat) (h : j < l.length), es = [.d (eTs l), .d (.int (j : Int))] ∧ goodT l ∧ ∀ r, SH l j l[j] r → Q (.d r) st
theorem SH_of {l : List Th} {j : Nat} {t : Th} {x m : Int} (ht : 1 ≤ t.2) (hm : 0 < m) (hv : ∀ v, fitsAll (without l j) v ↔ m ∣ v - x) : SH l j t (.tuple [.int ((x - t.1) % kGcd .h m t.2), .int (kGcd .h m t.2)]) := by
  right
  have g0 : 0 ≤ kGcd .h m t.2 := kGcd_nn (k := .h) (by omega) (by omega)
  have g1 : kGcd .h m t.2 ≠ 0 := fun e => by have := (kGcd_eq_zero (k := .h) (a := m) (b := t.2) (by omega) (by omega)).mp e; omega
  refine ⟨_, _, rfl, Int.emod_nonneg _ g1, Int.emod_lt_of_pos _ (by omega), eg_right (α := Int) m t.2, fun s => ?_⟩
  have h1 : (∃ v, fitsAll (without l j) v ∧ t.2 ∣ v - (t.1 + s)) ↔ ∃ v : Int, Eud.dvd m (v - x) ∧ Eud.dvd t.2 (v - (t.1 + s)) :=
    ⟨fun ⟨v, a, b⟩ => ⟨v, (hv v).mp a, b⟩, fun ⟨v, a, b⟩ => ⟨v, (hv v).mpr a, b⟩⟩
  rw [h1, met_iff (α := Int)]
  have e : s - (x - t.1) % kGcd .h m t.2 = (t.1 + s - x) + kGcd .h m t.2 * ((x - t.1) / kGcd .h m t.2) := by
    have := Int.mul_ediv_add_emod (x - t.1) (kGcd .h m t.2)
    omega
  rw [e]
  show kGcd .h m t.2 ∣ t.1 + s - x ↔ _
  exact ⟨fun h => Int.dvd_add h (Int.dvd_mul_right _ _), fun h => by have := Int.dvd_sub h (Int.dvd_mul_right (kGcd .h m t.2) ((x - t.1) / kGcd .h m t.2)); rwa [Int.add_sub_cancel] at this⟩
theorem slc_hd {l : List Th} {j : Nat} (h : j < l.length) : slcF (.list (l.map eT)) none (some (j : Int)) = some (eTs (l.take j)) := by
  rw [slc_list, cut_take (by simp; omega), ← List.map_take]; rfl
theorem slc_tl {l : List Th} {j : Nat} (h : j < l.length) : slcF (.list (l.map eT)) (some ((j : Int) + 1)) none = some (eTs (l.drop (j + 1))) := by
  rw [slc_list, show ((j : Int) + 1) = ((j + 1 : Nat) : Int) by omega, cut_drop (by simp; omega), ← List.map_drop]; rfl
theorem cat_eTs {a b : List Th} (h : a.length + b.length ≤ 1000) : opF .Add (eTs a) (eTs b) = some (eTs (a ++ b)) := by
  show (if _ then _ else _) = _
  rw [if_pos (by simp [line]; omega), ← List.map_append]; rfl
theorem eT0 {t : Th} : idxF (eT t) (.int 0) = some (.int t.1) := rfl
theorem eT1 {t : Th} : idxF (eT t) (.int 1) = some (.int t.2) := rfl
def N_shifts : List Str := ["things", "number", "others", "by"]
def d_shifts_5 : B := .cons
  (.ret (.tup (.cons (.call 4 (.cons (.cst (.str "hours")) (.cons (.bin .Sub (.idx (.var 2) (.cst (.int 0))) (.idx (.idx (.var 0) (.var 1)) (.cst (.int 0)))) (.cons (.var 3) .nil)))) (.cons (.var 3) .nil))))
  .nil
def d_shifts_4 : B := .cons
  (.asg (.var 3) (.call 3 (.cons (.cst (.str "hours")) (.cons (.idx (.var 2) (.cst (.int 1))) (.cons (.idx (.idx (.var 0) (.var 1)) (.cst (.int 1))) .nil)))))
  d_shifts_5
def d_shifts_3 : B := .cons
  (.ite (.isc false (.var 2) .none) (.cons (.ret (.cst .none)) .nil) .nil)
  d_shifts_4
def d_shifts_2 : B := .cons
  (.asg (.var 2) (.call 2 (.cons (.bin .Add (.slc (.var 0) .none (.some (.var 1))) (.slc (.var 0) (.some (.bin .Add (.var 1) (.cst (.int 1)))) .none)) .nil)))
  d_shifts_3
def d_shifts_1 : B := .cons
  (.ite (.bop .Or (.cons (.un .Not (.call 1 (.cons (.var 1) .nil))) (.cons (.un .Not (.chain .LtE .Lt (.cst (.int 0)) (.var 1) (.blt .len (.cons (.var 0) .nil)))) .nil))) (.cons .stuck .nil) .nil)
  d_shifts_2
def d_shifts_0 : B := .cons
  (.expr (.call 0 (.cons (.var 0) .nil)))
  d_shifts_1
@[simp] def d_shifts : Def := ⟨2, 4, 0,
  d_shifts_0⟩
@[simp] def T_shifts : Tab := ⟨[("check_things", 1, sp_check_things), ("is_whole", 1, sp_is_whole), ("together_in", 1, sp_together_in), ("divisor_in", 3, sp_divisor_in), ("rest_in", 3, sp_rest_in)], [], ["len"]⟩
local macro_rules
  | `(tactic| walk_at "dn") => `(tactic| simp only [denF, denB, denS, den, denL, denO, denI, denC, DE.of, testOf, boolOf, strict1, strict2, ex_eq_some, ex_ss, ex_di, ex_none, ex_call, ex_look2, ex_look1, ex_tru, some_if, some_map, map_some, looks_nil, looks_d, datas_nil, datas_d, ex_some2, tru_none, tru_bool, tru_int, tru_list, cmp_eq_int, cmp_ne_int, cmp_lt, cmp_le, cmp_gt, cmp_ge, cmp_eq_str, cmp_ne_str, op_add, op_sub, op_mul, op_fdv, op_mod, op_pow, op_shl, op_shr, op_and, op_or, op_xor, op_cat, un_neg, is_none, in_none, in_int, in_str, in_list, blt_len, blt_int, blt_abs, blt_max, blt_min, blt_repr, blt_sum, isi_int_int, isi_int_bool, isi_int_str, isi_str_str, isi_str_int, isi_str_bool, isi_bool_bool, isi_bool_int, isi_none_int, isi_none_str, isi_list_list, isi_list_int, isi_list_str, idx_list, idx_tuple, in2, spI1_at, spD_at, spKD_at, spKD_h, spKD_b, isW_int, isC_int, isN_int, isN_h, isN_b, sp_check_number_at, spK0_at, spK0_h, spK0_b, spK1_at, spK1_h, spK1_b, spK2_at, spK2_h, spK2_b, nk, kS_h, kS_b, l2, hours_bits, bits_hours, List.map_cons, List.map_nil, List.cons_append, List.nil_append, List.replicate_succ, List.replicate_zero, Nat.reduceSub, Nat.reduceAdd, List.getElem?_cons_zero, List.getElem?_cons_succ, List.set_cons_zero, List.set_cons_succ, if_true, if_false, Bool.false_eq_true, decide_eq_true_eq, decide_true, decide_false, Bool.not_true, Bool.not_false, Bool.or_true, Bool.true_or, Bool.or_false, Bool.false_or, exists_eq_left', true_and, and_true, eq_self, List.length_cons, List.length_nil, List.take_length, fin_d, fin_t, Bool.not_eq_true', decide_eq_false_iff_not, and_self, Bool.true_eq_false, reduceCtorEq])
local macro_rules
  | `(tactic| walk_at "dm") => `(tactic| simp only [denF, denB, denS, den, denL, denO, denI, denC, DE.of, testOf, boolOf, strict1, strict2, ex_eq_some, ex_ss, ex_di, ex_none, ex_call, ex_look2, ex_look1, ex_tru, some_if, some_map, map_some, looks_nil, looks_d, datas_nil, datas_d, ex_some2, tru_none, tru_bool, tru_int, tru_list, cmp_eq_int, cmp_ne_int, cmp_lt, cmp_le, cmp_gt, cmp_ge, cmp_eq_str, cmp_ne_str, op_add, op_sub, op_mul, op_fdv, op_mod, op_pow, op_shl, op_shr, op_and, op_or, op_xor, op_cat, un_neg, is_none, in_none, in_int, in_str, in_list, blt_len, blt_int, blt_abs, blt_max, blt_min, blt_repr, blt_sum, isi_int_int, isi_int_bool, isi_int_str, isi_str_str, isi_str_int, isi_str_bool, isi_bool_bool, isi_bool_int, isi_none_int, isi_none_str, isi_list_list, isi_list_int, isi_list_str, idx_list, idx_tuple, in2, spI1_at, spD_at, spKD_at, spKD_h, spKD_b, isW_int, isC_int, isN_int, isN_h, isN_b, sp_check_number_at, spK0_at, spK0_h, spK0_b, spK1_at, spK1_h, spK1_b, spK2_at, spK2_h, spK2_b, kS_h, kS_b, l2, hours_bits, bits_hours, List.map_cons, List.map_nil, List.cons_append, List.nil_append, List.replicate_succ, List.replicate_zero, Nat.reduceSub, Nat.reduceAdd, List.getElem?_cons_zero, List.getElem?_cons_succ, List.set_cons_zero, List.set_cons_succ, if_true, if_false, Bool.false_eq_true, decide_eq_true_eq, decide_true, decide_false, Bool.not_true, Bool.not_false, Bool.or_true, Bool.true_or, Bool.or_false, Bool.false_or, exists_eq_left', true_and, and_true, eq_self, List.length_cons, List.length_nil, List.take_length, fin_d, fin_t, Bool.not_eq_true', decide_eq_false_iff_not, and_self, Bool.true_eq_false, reduceCtorEq])
local macro_rules
  | `(tactic| walk_at "dx") => `(tactic| ((try simp only [blt_len_t, isi_tt, at20, at21, ex_eq_some, cmp_eq_none, sp_thing_fits_at]); walk_at "dm"))
set_option exponentiation.threshold 2000 in
theorem b_shifts : ∀ (es : List EV) (s : ST) (Q : QE) (X : QX), es.length = d_shifts.np → sp_shifts es s Q X → denF T_shifts d_shifts es s Q X := by
  rintro es s Q X hl ⟨l, j, hj, rfl, g, q⟩
  have hp1 : ∀ t ∈ l, 1 ≤ t.2 := fun t ht => (g.1 t ht).1
  have hjm : j < (l.map eT).length := by simpa using hj
  have hlen := g.2.2
  simp only [T_shifts, d_shifts, sp_is_whole, sp_divisor_in, sp_rest_in, d_shifts_0]
  walk_at "dm"
  rw [sp_check_things_at]
  refine ⟨hp1, g.2.2, ?_⟩
  simp only [d_shifts_1, eTs]
  walk_at "dm"
  refine ⟨_, _, _, rfl, rfl, cmp_le, ?_⟩
  rw [if_pos (by simp)]
  refine ⟨_, _, _, rfl, rfl, cmp_lt, ?_⟩
  rw [if_neg (by simp; omega)]
  simp only [d_shifts_2]
  walk_at "dm"
  refine ⟨_, slc_hd hj, _, slc_tl hj, _, cat_eTs (by simp; omega), ?_⟩
  refine ⟨without l j, rfl, goodU_of (goodT_without g hj), fun r hr => ?_⟩
  have ht := g.1 l[j] (List.getElem_mem hj)
  have hat : atI (l.map eT) (j : Int) = some (eT l[j]) := by rw [atI_nat hjm]; simp
  simp only [d_shifts_3]
  rcases hr with ⟨rfl, hno⟩ | ⟨x, m, rfl, h0, h1, h2, h3⟩
  · walk_at "dm"
    exact q _ (.inl ⟨rfl, fun s h => by obtain ⟨v, hv, _⟩ := h; exact hno v hv⟩)
  · walk_at "dm"
    simp only [in_tup]
    walk_at "dm"
    simp only [d_shifts_4]
    walk_at "dm"
    simp only [hat, ex_eq_some, at21, eT1]
    walk_at "dm"
    have b1 : m.natAbs < 2 ^ 250 := Nat.lt_of_le_of_lt h2 (goodT_without g hj).2.1
    have b2 : l[j].2.natAbs < 2 ^ 250 := Nat.lt_of_le_of_lt (prodT_mem hp1 (List.getElem?_eq_getElem hj)) g.2.1
    have om : ok .h 250 m := ⟨trivial, b1⟩
    have ot2 : ok .h 250 l[j].2 := ⟨trivial, b2⟩
    have og := kGcd_le (k := .h) (a := m) (b := l[j].2) (by omega) (by omega) b1 b2
    have g0 : 0 ≤ kGcd .h m l[j].2 := kGcd_nn (k := .h) (by omega) (by omega)
    have g1 : kGcd .h m l[j].2 ≠ 0 := fun e => by have := (kGcd_eq_zero (k := .h) (a := m) (b := l[j].2) (by omega) (by omega)).mp e; omega
    refine ⟨⟨by omega, by omega, om.sh (by decide), ot2.sh (by decide)⟩, ?_⟩
    simp only [d_shifts_5]
    walk_at "dm"
    simp only [hat, ex_eq_some, at20, eT0]
    walk_at "dm"
    have oxt : ok .h 251 (x - l[j].1) := ⟨trivial, by have := ht.2; have e : (2 : Nat) ^ 251 = 2 ^ 250 * 2 := rfl; omega⟩
    refine ⟨⟨trivial, g0, oxt.sh (by decide), og.sh (by decide)⟩, ?_⟩
    have er : kRest .h (x - l[j].1) (kGcd .h m l[j].2) = (x - l[j].1) % kGcd .h m l[j].2 := by
      show (if kGcd .h m l[j].2 = 0 then _ else _) = _
      rw [if_neg g1]; rfl
    rw [er]
    exact q _ (SH_of (by omega) (by omega) h3)
end Gen

namespace Gen
open PySem PySem.Spec PyProof.Rows L2 Mini Eud
def sp__law_size : Mini.Spec := fun es st Q _ => ∃ n lo hi, es = [.cell n, .d (.int lo), .d (.int hi)] ∧ (0 ≤ lo ∧ lo ≤ hi ∧ hi < 2 ^ 100) ∧ drw n st Q 50 fun r => lo ≤ r ∧ r ≤ hi
def sp__law_same : Mini.Spec := fun es st Q _ => ∃ x, es = [.d x, .d x] ∧ (PyData.showable x = true ∧ SeqAt.shaped x = true ∧ (PyData.shown x).length ≤ line) ∧ Q (.d (.bool true)) st
def meetAt (l : List Th) (h : Int) : Bool := l.all fun t => decide ((h - t.1) % t.2 = 0)
def meetB (l : List Th) : Bool := !((List.range 120).filter fun h : Nat => meetAt l (h : Int)).isEmpty
def sp__law_meet : Mini.Spec := fun es st Q _ => ∃ l : List Th, es = [.d (eTs l)] ∧ ((∀ t ∈ l, 1 ≤ t.2) ∧ l.length ≤ 1000) ∧ Q (.d (.bool (meetB l))) st
theorem shp_ints (xs : List Int) : SeqAt.shaped (.list (xs.map .int)) = true := by
  have key : ∀ ys : List Int, PyData.canLayAll0 (ys.map .int) = true ∧ PyData.depthAll (ys.map .int) ≤ 1 := by
    intro ys
    induction ys with
    | nil => exact ⟨rfl, by decide⟩
    | cons y ys ih =>
      refine ⟨?_, ?_⟩
      · simp [PyData.canLayAll0, PyData.canLay0, ih.1]
      · have := ih.2
        simp [PyData.depthAll, PyData.depth]; omega
  have := key xs
  simp [SeqAt.shaped, PyData.canLay0, PyData.depth, this.1]; omega
theorem eqv_nil {xs : List PyData} : PyData.eqv (.list xs) (.list []) = xs.isEmpty := by
  cases xs <;> simp [PyData.eqv, PyData.eqvAll]
theorem ne_nil_ints (xs : List Int) : cmpF .NotEq (.list (xs.map .int)) (.list []) = some (!xs.isEmpty) := by
  have h := shp_ints xs
  have h2 : SeqAt.shaped (.list []) = true := by decide +kernel
  simp only [cmpF, h, h2, and_self, or_true, if_true, eqv_nil]
  cases xs <;> rfl
theorem eq_nil_ints (xs : List Int) : cmpF .Eq (.list (xs.map .int)) (.list []) = some xs.isEmpty := by
  have h := shp_ints xs
  have h2 : SeqAt.shaped (.list []) = true := by decide +kernel
  simp only [cmpF, h, h2, and_self, or_true, if_true, eqv_nil]
  cases xs <;> rfl
def pIn (h : Int) : PyData → Bool
  | .tuple [.int a, .int b] => decide ((h - a) % b ≠ 0)
  | _ => false
def pOut (l : List Th) : PyData → Bool
  | .int h => meetAt l h
  | _ => false
theorem inn_list (l : List Th) (h : Int) : List.map (fun _ => PyData.int 1) (List.filter (pIn h) (List.map eT l)) = ((l.filter fun t => decide ((h - t.1) % t.2 ≠ 0)).map fun _ => (1 : Int)).map .int := by
  rw [List.filter_map, List.map_map, List.map_map]; rfl
theorem inn_empty (l : List Th) (h : Int) : ((l.filter fun t => decide ((h - t.1) % t.2 ≠ 0)).map fun _ => (1 : Int)).isEmpty = meetAt l h := by
  unfold meetAt
  rw [Bool.eq_iff_iff]
  simp
theorem out_list (l : List Th) : List.map id (List.filter (pOut l) (rngP 0 (Int.toNat 120))) = (((List.range 120).filter fun h : Nat => meetAt l (h : Int)).map fun h : Nat => (h : Int)).map .int := by
  rw [List.map_id, List.map_map]
  show List.filter (pOut l) (List.map _ (List.range 120)) = _
  rw [List.filter_map]
  have e1 : ∀ h : Nat, (pOut l ∘ fun k : Nat => PyData.int (0 + (k : Int))) h = meetAt l (h : Int) := fun h => by simp [pOut]
  rw [show (pOut l ∘ fun k : Nat => PyData.int (0 + (k : Int))) = fun h : Nat => meetAt l (h : Int) from funext e1]
  congr 1
  funext k
  simp
def N__law_size : List Str := ["_law_generator_here", "_law_least", "_law_most"]
@[simp] def d__law_size : Def := ⟨3, 3, 0,
  (.cons (.ret (.bin .Add (.var 1) (.call 0 (.cons (.var 0) (.cons (.bin .Add (.bin .Sub (.var 2) (.var 1)) (.cst (.int 1))) .nil))))) .nil)⟩
@[simp] def T__law_size : Tab := ⟨[("_law_random", 2, sp__law_random)], [], []⟩
def N__law_same : List Str := ["_law_one_told", "_law_other_told"]
@[simp] def d__law_same : Def := ⟨2, 2, 0,
  (.cons (.ret (.cmp .Eq (.blt .repr (.cons (.var 0) .nil)) (.blt .repr (.cons (.var 1) .nil)))) .nil)⟩
@[simp] def T__law_same : Tab := ⟨[], [], ["repr"]⟩
def N__law_meet : List Str := ["_law_things", "_law_hour", "_law_start", "_law_every"]
@[simp] def d__law_meet : Def := ⟨1, 4, 0,
  (.cons (.ret (.cmp .NotEq (.comp [("_law_hour", 1)] (.var 1) (.rng1 (.cst (.int 120))) (.some (.cmp .Eq (.comp [("_law_start", 2), ("_law_every", 3)] (.tup (.cons (.var 2) (.cons (.var 3) .nil))) (.dat (.var 0)) (.some (.cmp .NotEq (.bin .Mod (.blt .int (.cons (.bin .Sub (.var 1) (.var 2)) .nil)) (.var 3)) (.cst (.int 0)))) (.cst (.int 1))) (.lst false .nil))) (.var 1)) (.lst false .nil))) .nil)⟩
@[simp] def T__law_meet : Tab := ⟨[], [], ["range", "int"]⟩
local macro_rules
  | `(tactic| walk_at "dn") => `(tactic| simp only [denF, denB, denS, den, denL, denO, denI, denC, DE.of, testOf, boolOf, strict1, strict2, ex_eq_some, ex_ss, ex_di, ex_none, ex_call, ex_look2, ex_look1, ex_tru, some_if, some_map, map_some, looks_nil, looks_d, datas_nil, datas_d, ex_some2, tru_none, tru_bool, tru_int, tru_list, cmp_eq_int, cmp_ne_int, cmp_lt, cmp_le, cmp_gt, cmp_ge, cmp_eq_str, cmp_ne_str, op_add, op_sub, op_mul, op_fdv, op_mod, op_pow, op_shl, op_shr, op_and, op_or, op_xor, op_cat, un_neg, is_none, in_none, in_int, in_str, in_list, blt_len, blt_int, blt_abs, blt_max, blt_min, blt_repr, blt_sum, isi_int_int, isi_int_bool, isi_int_str, isi_str_str, isi_str_int, isi_str_bool, isi_bool_bool, isi_bool_int, isi_none_int, isi_none_str, isi_list_list, isi_list_int, isi_list_str, idx_list, idx_tuple, in2, spI1_at, spD_at, spKD_at, spKD_h, spKD_b, isW_int, isC_int, isN_int, isN_h, isN_b, sp_check_number_at, spK0_at, spK0_h, spK0_b, spK1_at, spK1_h, spK1_b, spK2_at, spK2_h, spK2_b, nk, kS_h, kS_b, l2, hours_bits, bits_hours, List.map_cons, List.map_nil, List.cons_append, List.nil_append, List.replicate_succ, List.replicate_zero, Nat.reduceSub, Nat.reduceAdd, List.getElem?_cons_zero, List.getElem?_cons_succ, List.set_cons_zero, List.set_cons_succ, if_true, if_false, Bool.false_eq_true, decide_eq_true_eq, decide_true, decide_false, Bool.not_true, Bool.not_false, Bool.or_true, Bool.true_or, Bool.or_false, Bool.false_or, exists_eq_left', true_and, and_true, eq_self, List.length_cons, List.length_nil, List.take_length, fin_d, fin_t, Bool.not_eq_true', decide_eq_false_iff_not, and_self, Bool.true_eq_false, reduceCtorEq])
local macro_rules
  | `(tactic| walk_at "dm") => `(tactic| simp only [denF, denB, denS, den, denL, denO, denI, denC, DE.of, testOf, boolOf, strict1, strict2, ex_eq_some, ex_ss, ex_di, ex_none, ex_call, ex_look2, ex_look1, ex_tru, some_if, some_map, map_some, looks_nil, looks_d, datas_nil, datas_d, ex_some2, tru_none, tru_bool, tru_int, tru_list, cmp_eq_int, cmp_ne_int, cmp_lt, cmp_le, cmp_gt, cmp_ge, cmp_eq_str, cmp_ne_str, op_add, op_sub, op_mul, op_fdv, op_mod, op_pow, op_shl, op_shr, op_and, op_or, op_xor, op_cat, un_neg, is_none, in_none, in_int, in_str, in_list, blt_len, blt_int, blt_abs, blt_max, blt_min, blt_repr, blt_sum, isi_int_int, isi_int_bool, isi_int_str, isi_str_str, isi_str_int, isi_str_bool, isi_bool_bool, isi_bool_int, isi_none_int, isi_none_str, isi_list_list, isi_list_int, isi_list_str, idx_list, idx_tuple, in2, spI1_at, spD_at, spKD_at, spKD_h, spKD_b, isW_int, isC_int, isN_int, isN_h, isN_b, sp_check_number_at, spK0_at, spK0_h, spK0_b, spK1_at, spK1_h, spK1_b, spK2_at, spK2_h, spK2_b, kS_h, kS_b, l2, hours_bits, bits_hours, List.map_cons, List.map_nil, List.cons_append, List.nil_append, List.replicate_succ, List.replicate_zero, Nat.reduceSub, Nat.reduceAdd, List.getElem?_cons_zero, List.getElem?_cons_succ, List.set_cons_zero, List.set_cons_succ, if_true, if_false, Bool.false_eq_true, decide_eq_true_eq, decide_true, decide_false, Bool.not_true, Bool.not_false, Bool.or_true, Bool.true_or, Bool.or_false, Bool.false_or, exists_eq_left', true_and, and_true, eq_self, List.length_cons, List.length_nil, List.take_length, fin_d, fin_t, Bool.not_eq_true', decide_eq_false_iff_not, and_self, Bool.true_eq_false, reduceCtorEq])
local macro_rules
  | `(tactic| walk_at "dx") => `(tactic| ((try simp only [blt_len_t, isi_tt, at20, at21, ex_eq_some, cmp_eq_none, sp_thing_fits_at]); walk_at "dm"))
theorem b__law_size : ∀ (es : List EV) (s : ST) (Q : QE) (X : QX), es.length = d__law_size.np → sp__law_size es s Q X → denF T__law_size d__law_size es s Q X := by
  rintro es s Q X hl ⟨n, lo, hi, rfl, ⟨p1, p2, p3⟩, a, sd, c, hst, g, q⟩
  simp only [T__law_size, d__law_size]
  walk_at "dm"
  rw [sp__law_random_at]
  have o1 : ok .h 101 (hi - lo + 1) := ⟨trivial, by omega⟩
  refine ⟨⟨by omega, o1.sh (by decide)⟩, a, sd, c, hst, g, fun r a' c' hr h1 h2 => ?_⟩
  walk_at "dm"
  rw [take_set_]
  exact q _ a' c' ⟨by omega, by omega⟩ h1 h2
theorem b__law_same : ∀ (es : List EV) (s : ST) (Q : QE) (X : QX), es.length = d__law_same.np → sp__law_same es s Q X → denF T__law_same d__law_same es s Q X := by
  rintro es s Q X hl ⟨x, rfl, p, q⟩
  simp only [T__law_same, d__law_same]
  walk_at "dm"
  exact ⟨p, p, q⟩
theorem b__law_meet : ∀ (es : List EV) (s : ST) (Q : QE) (X : QX), es.length = d__law_meet.np → sp__law_meet es s Q X → denF T__law_meet d__law_meet es s Q X := by
  rintro es s Q X hl ⟨l, rfl, ⟨p1, p2⟩, q⟩
  simp only [T__law_meet, d__law_meet, eTs]
  walk_at "dm"
  refine ⟨by decide, by decide, ?_⟩
  refine compGo_pure (pOut l) id (by rw [rngP_len]; decide) trivial ?_ ?_
  · intro x hx
    obtain ⟨i, hi, rfl⟩ := List.mem_map.mp hx
    refine ⟨_, rfl, ?_, ?_⟩
    · intro R hR
      walk_at "dm"
      refine ⟨_, rfl, ?_⟩
      walk_at "dm"
      refine compGo_pure (pIn (0 + (i : Int))) (fun _ => .int 1) (by simp [line]; omega) trivial ?_ ?_
      · intro x hx
        obtain ⟨t, ht, rfl⟩ := List.mem_map.mp hx
        have t1 := p1 t ht
        refine ⟨_, rfl, ?_, ?_⟩
        · intro R' hR'
          walk_at "dm"
          refine ⟨_, rfl, _, rfl, ?_⟩
          walk_at "dm"
          refine ⟨_, rfl, ?_⟩
          walk_at "dm"
          exact ⟨by omega, hR'⟩
        · intro _ R' hR'
          exact hR'
      · rw [inn_list]
        refine ⟨Nat.zero_le _, ?_⟩
        walk_at "dm"
        refine ⟨_, eq_nil_ints _, ?_⟩
        rw [inn_empty]
        exact hR
    · intro _ R hR
      exact ⟨_, rfl, hR⟩
  · rw [out_list]
    refine ⟨Nat.zero_le _, ?_⟩
    walk_at "dm"
    refine ⟨_, ne_nil_ints _, ?_⟩
    rw [List.isEmpty_map]
    exact q
end Gen

namespace Gen
open PySem PySem.Spec PyProof.Rows L2 Mini Eud
theorem prod_menu : ∀ (l : List Nat) (a : Nat), (∀ x ∈ l, x ≤ 12) → l.foldl (· * ·) a ≤ a * 12 ^ l.length
  | [], a, _ => by simp
  | x :: l, a, h => by
    have h1 := prod_menu l (a * x) fun y hy => h y (List.mem_cons_of_mem _ hy)
    have h2 := h x (List.mem_cons_self ..)
    have h3 : a * x * 12 ^ l.length ≤ a * 12 * 12 ^ l.length := Nat.mul_le_mul_right _ (Nat.mul_le_mul_left _ h2)
    show List.foldl _ (a * x) l ≤ a * 12 ^ (l.length + 1)
    rw [Nat.pow_succ]
    calc _ ≤ _ := h1
      _ ≤ a * 12 * 12 ^ l.length := h3
      _ = _ := by ac_rfl
theorem good_menu {l : List Th} (h : ∀ t ∈ l, (1 ≤ t.2 ∧ t.2 ≤ 12) ∧ t.1.natAbs < 2 ^ 250) (hl : l.length ≤ 6) : goodT l := by
  refine ⟨fun t ht => ⟨(h t ht).1.1, (h t ht).2⟩, ?_, by omega⟩
  have h1 := prod_menu (l.map fun t => t.2.natAbs) 1 fun x hx => by
    obtain ⟨t, ht, rfl⟩ := List.mem_map.mp hx
    have := (h t ht).1
    omega
  rw [List.length_map, Nat.one_mul] at h1
  have h2 : 12 ^ l.length ≤ 12 ^ 6 := Nat.pow_le_pow_right (by decide) hl
  have h3 : (12 : Nat) ^ 6 < 2 ^ 250 := by decide
  omega
theorem shp_Ts (l : List Th) : SeqAt.shaped (eTs l) = true := by
  have key : ∀ ys : List Th, PyData.canLayAll0 (ys.map eT) = true ∧ PyData.depthAll (ys.map eT) ≤ 2 := by
    intro ys
    induction ys with
    | nil => exact ⟨rfl, by decide⟩
    | cons y ys ih =>
      refine ⟨?_, ?_⟩
      · simp [PyData.canLayAll0, PyData.canLay0, eT, ih.1]
      · have := ih.2
        simp [PyData.depthAll, PyData.depth, eT]; omega
  have := key l
  simp [eTs, SeqAt.shaped, PyData.canLay0, PyData.depth, this.1]; omega
theorem rp_Ts {l : List Th} (h : ∀ t ∈ l, t.1.natAbs < 2 ^ 1000 ∧ t.2.natAbs < 2 ^ 1000) (hl : l.length ≤ 1000) : PyData.showable (eTs l) = true ∧ SeqAt.shaped (eTs l) = true ∧ (PyData.shown (eTs l)).length ≤ line := by
  have one : ∀ t ∈ l, PyData.showable (eT t) = true ∧ (PyData.shown (eT t)).length ≤ 4000 := by
    intro t ht
    have h1 := rp_int (h t ht).1
    have h2 := rp_int (h t ht).2
    have s1 := shown_int_le (h t ht).1 (by decide)
    have s2 := shown_int_le (h t ht).2 (by decide)
    refine ⟨by simp [eT, PyData.showable, PyData.showableAll]; exact ⟨by simpa [PyData.showable] using h1.1, by simpa [PyData.showable] using h2.1⟩, ?_⟩
    have e : PyData.shown (eT t) = tupleText [PyData.shown (.int t.1), PyData.shown (.int t.2)] := by simp only [eT, PyData.shown, PyData.shownAll]
    rw [e]
    have := tupleText_len_le [PyData.shown (.int t.1), PyData.shown (.int t.2)]
    simp only [List.map_cons, List.map_nil, List.sum_cons, List.sum_nil, List.length_cons, List.length_nil] at this
    omega
  have key : ∀ ys : List Th, (∀ t ∈ ys, PyData.showable (eT t) = true ∧ (PyData.shown (eT t)).length ≤ 4000) → PyData.showableAll (ys.map eT) = true ∧ ((PyData.shownAll (ys.map eT)).map (·.length)).sum ≤ 4000 * ys.length := by
    intro ys
    induction ys with
    | nil => intro _; exact ⟨rfl, by decide⟩
    | cons y ys ih =>
      intro hy
      obtain ⟨i1, i4⟩ := ih fun x hx => hy x (List.mem_cons_of_mem _ hx)
      have h1 := hy y (List.mem_cons_self ..)
      refine ⟨?_, ?_⟩
      · simp only [List.map_cons, PyData.showableAll, h1.1, i1, Bool.and_self]
      · simp only [List.map_cons, PyData.shownAll, List.sum_cons, List.length_cons]; omega
  obtain ⟨i1, i4⟩ := key l one
  refine ⟨by simpa only [eTs, PyData.showable] using i1, shp_Ts l, ?_⟩
  have e : PyData.shown (eTs l) = listText (PyData.shownAll (l.map eT)) := by simp only [eTs, PyData.shown]
  rw [e]
  have := listText_len_le (PyData.shownAll (l.map eT))
  rw [PyData.shownAll_length, List.length_map] at this
  have hz : line = 16777216 := rfl
  omega
theorem small20 {a : Int} (h : a.natAbs < 2 ^ 20) : a.natAbs < 2 ^ 1000 := Nat.lt_of_lt_of_le h (Nat.pow_le_pow_right (by decide) (by decide))
theorem cmp_ne_bool {a b : Bool} : cmpF .NotEq (.bool a) (.bool b) = some (a != b) := by cases a <;> cases b <;> decide +kernel
theorem eqv_ints (xs : List Int) : PyData.eqv (.list (xs.map .int)) (.list (xs.map .int)) = true := by
  have key : ∀ ys : List Int, PyData.eqvAll (ys.map .int) (ys.map .int) = true := by
    intro ys
    induction ys with
    | nil => simp [PyData.eqvAll]
    | cons y ys ih => simp [PyData.eqvAll, eqv_int, ih]
  rw [PyData.eqv]; exact key xs
theorem ne_same_ints (xs : List Int) : cmpF .NotEq (.list (xs.map .int)) (.list (xs.map .int)) = some false := by
  have h := shp_ints xs
  simp only [cmpF, h, and_self, or_true, if_true, eqv_ints]
  rfl
theorem sm {a : Int} (h : a.natAbs < 2 ^ 8) : sh a := Nat.lt_of_lt_of_le h (Nat.pow_le_pow_right (by decide) (by decide))
theorem sp__law_generator_at {ns : List Int} {i : Int} {st Q X} : sp__law_generator [.d (.list (ns.map PyData.int)), .d (.int i)] st Q X ↔ (0 ≤ i ∧ i ≤ 1000) ∧ ∀ a s : Int, 0 ≤ s → s < 2 ^ 31 → Q (.cell st.length) (st ++ [gst a s (1000 * i)]) := by
  constructor
  · rintro ⟨ns', i', e, p, q⟩
    simp only [List.cons.injEq, EV.d.injEq, PyData.int.injEq, and_true] at e
    obtain ⟨_, rfl⟩ := e
    exact ⟨p, q⟩
  · rintro ⟨p, q⟩
    exact ⟨ns, i, rfl, p, q⟩
theorem set_app {st : ST} {x y : List PyData} : (st ++ [x]).set st.length y = st ++ [y] := by simp
theorem get_app {st : ST} {x : List PyData} : (st ++ [x])[st.length]? = some x := by simp
theorem good_small {l : List Th} (h : ∀ t ∈ l, (1 ≤ t.2 ∧ t.2.natAbs < 2 ^ 100) ∧ t.1.natAbs < 2 ^ 20) (hp : (l.map fun t => t.2.natAbs).foldl (· * ·) 1 < 2 ^ 250) (hl : l.length ≤ 6) : goodT l :=
  ⟨fun t ht => ⟨(h t ht).1.1, Nat.lt_of_lt_of_le (h t ht).2 (Nat.pow_le_pow_right (by decide) (by decide))⟩, hp, by omega⟩
end Gen

namespace Gen
open PySem PySem.Spec PyProof.Rows L2 Mini Eud
/-! the divisor told by factors -/
section
variable {α : Type} [Eu α] {k : Kd}
theorem pap_eu {A B : α} (h : eg A B ≠ 0) : eg A B * Eu.quo A (eg A B) = A ∧ eg A B * Eu.quo B (eg A B) = B ∧ A * bz A B 1 0 + B * (if B = 0 then 0 else Eu.quo (eg A B - A * bz A B 1 0) B) = eg A B := by
  obtain ⟨p, hp⟩ := eg_left A B
  obtain ⟨q, hq⟩ := eg_right A B
  refine ⟨?_, ?_, ?_⟩
  · rw [quo_of h hp]; exact hp.symm
  · rw [quo_of h hq]; exact hq.symm
  · obtain ⟨g, hg⟩ := bz_bez A B
    by_cases z : B = 0
    · rw [if_pos z]
      have e : eg A B - A * bz A B 1 0 = 0 := by rw [hg, z]; grind
      grind
    · rw [if_neg z, quo_of z hg]
      grind
end
def kNeg : Kd → Int → Int
  | .h, a => 0 - a
  | .b, a => a
def kSg (k : Kd) (x l : Int) : Int := if l < 0 then kNeg k x else x
def kF (k : Kd) (a b : Int) : Int := kBz k a.natAbs b.natAbs 1 0
def kG (k : Kd) (a b : Int) : Int := if b ≠ 0 then kQuo k (kLess k (kGcd k a.natAbs b.natAbs) (kTimes k a.natAbs (kF k a b))) b.natAbs else 0
/-- c, p, q, x, y tell the divisor of a and b -/
structure Pap (k : Kd) (a b c p q x y : Int) : Prop where
  np : ok k 300 p
  nq : ok k 300 q
  nx : ok k 301 x
  ny : ok k 602 y
  ep : kTimes k c p = a
  eq : kTimes k c q = b
  ec : kAdd k (kTimes k a x) (kTimes k b y) = c
theorem natAbs_b {a : Int} (h : nk .b a) : (a.natAbs : Int) = a := by have : 0 ≤ a := h; omega
theorem pap_k (k : Kd) : ∀ A B : Int, 0 ≤ A → 0 ≤ B → kGcd k A B ≠ 0 → kTimes k (kGcd k A B) (kQuo k A (kGcd k A B)) = A ∧ kTimes k (kGcd k A B) (kQuo k B (kGcd k A B)) = B ∧
    kAdd k (kTimes k A (kBz k A B 1 0)) (kTimes k B (if B ≠ 0 then kQuo k (kLess k (kGcd k A B) (kTimes k A (kBz k A B 1 0))) B else 0)) = kGcd k A B :=
  all_k (P := fun k => ∀ A B : Int, 0 ≤ A → 0 ≤ B → kGcd k A B ≠ 0 → kTimes k (kGcd k A B) (kQuo k A (kGcd k A B)) = A ∧ kTimes k (kGcd k A B) (kQuo k B (kGcd k A B)) = B ∧
    kAdd k (kTimes k A (kBz k A B 1 0)) (kTimes k B (if B ≠ 0 then kQuo k (kLess k (kGcd k A B) (kTimes k A (kBz k A B 1 0))) B else 0)) = kGcd k A B) (fun α _ k M A B hA hB hg => by
    have nA := nk_of_nn (k := k) hA
    have nB := nk_of_nn (k := k) hB
    have n1 : nk k 1 := nk_of_nn (by decide)
    have n0 : nk k 0 := nk_of_nn (by decide)
    have g0 := kGcd_nn (k := k) hA hB
    have ng := nk_of_nn (k := k) g0
    have g1 : 1 ≤ kGcd k A B := by omega
    have ug : M.up (kGcd k A B) = eg (M.up A) (M.up B) := by rw [M.gcd A B nA nB, M.ud]
    have hz : eg (M.up A) (M.up B) ≠ 0 := fun e => hg ((em_z M ng).mpr (ug.trans e))
    obtain ⟨e1, e2, e3⟩ := pap_eu hz
    have ubz : M.up (kBz k A B 1 0) = bz (M.up A) (M.up B) 1 0 := by rw [M.bz A B 1 0 nA nB n1 n0, M.ud, M.one, M.zero]
    have nbz : nk k (kBz k A B 1 0) := by rw [M.bz A B 1 0 nA nB n1 n0]; exact M.nkd _
    have nq : ∀ x y, nk k x → 1 ≤ y → nk k (kQuo k x y) := fun x y hx hy => by rw [M.quo x y hx hy]; exact M.nkd _
    have nt : ∀ x y, nk k x → nk k y → nk k (kTimes k x y) := fun x y hx hy => by rw [M.times x y hx hy]; exact M.nkd _
    have nl : ∀ x y, nk k x → nk k y → nk k (kLess k x y) := fun x y hx hy => by rw [M.less x y hx hy]; exact M.nkd _
    have uq : ∀ x y, nk k x → 1 ≤ y → M.up (kQuo k x y) = Eu.quo (M.up x) (M.up y) := fun x y hx hy => by rw [M.quo x y hx hy, M.ud]
    have ut : ∀ x y, nk k x → nk k y → M.up (kTimes k x y) = M.up x * M.up y := fun x y hx hy => by rw [M.times x y hx hy, M.ud]
    have ul : ∀ x y, nk k x → nk k y → M.up (kLess k x y) = M.up x - M.up y := fun x y hx hy => by rw [M.less x y hx hy, M.ud]
    refine ⟨?_, ?_, ?_⟩
    · rw [M.times _ _ ng (nq _ _ nA g1), uq _ _ nA g1, ug, e1, M.du _ nA]
    · rw [M.times _ _ ng (nq _ _ nB g1), uq _ _ nB g1, ug, e2, M.du _ nB]
    · have ui : M.up (if B ≠ 0 then kQuo k (kLess k (kGcd k A B) (kTimes k A (kBz k A B 1 0))) B else 0) = if M.up B = 0 then 0 else Eu.quo (eg (M.up A) (M.up B) - M.up A * bz (M.up A) (M.up B) 1 0) (M.up B) := by
        by_cases z : B = 0
        · rw [if_neg (fun h => h z), if_pos ((em_z M nB).mp z), M.zero]
        · rw [if_pos z, if_neg (fun e => z ((em_z M nB).mpr e)), uq _ _ (nl _ _ ng (nt _ _ nA nbz)) (by omega), ul _ _ ng (nt _ _ nA nbz), ut _ _ nA nbz, ubz, ug]
      have ni : nk k (if B ≠ 0 then kQuo k (kLess k (kGcd k A B) (kTimes k A (kBz k A B 1 0))) B else 0) := by
        split
        · exact nq _ _ (nl _ _ ng (nt _ _ nA nbz)) (by omega)
        · exact n0
      rw [M.add _ _ (nt _ _ nA nbz) (nt _ _ nB ni), ut _ _ nA nbz, ut _ _ nB ni, ui, ubz, e3, M.gcd A B nA nB]) k
theorem ok_neg {k : Kd} {m : Nat} {x : Int} (h : ok k m x) : ok k m (kNeg k x) := by
  cases k
  · exact ⟨trivial, by show (0 - x).natAbs < _; have := h.2; omega⟩
  · exact h
theorem ok_sg {k : Kd} {m : Nat} {x l : Int} (h : ok k m x) : ok k m (kSg k x l) := by
  unfold kSg; split
  · exact ok_neg h
  · exact h
theorem ok_0 {k : Kd} {m : Nat} : ok k m 0 := ⟨nk_of_nn (by decide), Nat.two_pow_pos m⟩
theorem pap_ok {k : Kd} {a b : Int} (ha : ok k 300 a) (hb : ok k 300 b) (h : kGcd k a.natAbs b.natAbs ≠ 0) :
    Pap k a b (kGcd k a.natAbs b.natAbs) (kSg k (kQuo k a.natAbs (kGcd k a.natAbs b.natAbs)) a) (kSg k (kQuo k b.natAbs (kGcd k a.natAbs b.natAbs)) b) (kSg k (kF k a b) a) (kSg k (kG k a b) b) := by
  have hA : (0 : Int) ≤ a.natAbs := by omega
  have hB : (0 : Int) ≤ b.natAbs := by omega
  have oA : ok k 300 (a.natAbs : Int) := ⟨nk_of_nn hA, by rw [Int.natAbs_natCast]; exact ha.2⟩
  have oB : ok k 300 (b.natAbs : Int) := ⟨nk_of_nn hB, by rw [Int.natAbs_natCast]; exact hb.2⟩
  have g1 : 1 ≤ kGcd k a.natAbs b.natAbs := by have := kGcd_nn (k := k) hA hB; omega
  have og : ok k 300 (kGcd k a.natAbs b.natAbs) := kGcd_le (k := k) hA hB oA.2 oB.2
  have oF : ok k 301 (kF k a b) := kBz_ok (k := k) hA hB oB.2
  have oG : ok k 602 (kG k a b) := by
    unfold kG
    split
    · refine ok_quo (ok_less (m := 601) (og.mono (by decide)) (ok_times oA oF)) (by omega)
    · exact ok_0
  obtain ⟨e1, e2, e3⟩ := pap_k k a.natAbs b.natAbs hA hB h
  have eG : (if (b.natAbs : Int) ≠ 0 then kQuo k (kLess k (kGcd k a.natAbs b.natAbs) (kTimes k a.natAbs (kBz k a.natAbs b.natAbs 1 0))) b.natAbs else 0) = kG k a b := by
    unfold kG kF
    by_cases z : b = 0
    · subst z; rfl
    · rw [if_pos z, if_pos (by omega)]
  rw [eG] at e3
  refine ⟨ok_sg (ok_quo oA g1), ok_sg (ok_quo oB g1), ok_sg oF, ok_sg oG, ?_, ?_, ?_⟩
  · cases k with
    | b =>
      have := natAbs_b ha.1
      unfold kSg
      rw [if_neg (by omega), e1, this]
    | h =>
      unfold kSg
      by_cases z : a < 0
      · rw [if_pos z]
        show _ * (0 - _) = _
        have e1' : kGcd .h a.natAbs b.natAbs * kQuo .h a.natAbs (kGcd .h a.natAbs b.natAbs) = a.natAbs := e1
        rw [Int.zero_sub, Int.mul_neg, e1']; omega
      · rw [if_neg z, e1]; omega
  · cases k with
    | b =>
      have := natAbs_b hb.1
      unfold kSg
      rw [if_neg (by omega), e2, this]
    | h =>
      unfold kSg
      by_cases z : b < 0
      · rw [if_pos z]
        show _ * (0 - _) = _
        have e2' : kGcd .h a.natAbs b.natAbs * kQuo .h b.natAbs (kGcd .h a.natAbs b.natAbs) = b.natAbs := e2
        rw [Int.zero_sub, Int.mul_neg, e2']; omega
      · rw [if_neg z, e2]; omega
  · have key : ∀ x l : Int, ok k 300 l → kTimes k l (kSg k x l) = kTimes k l.natAbs x := by
      intro x l ol
      cases k with
      | b =>
        have := natAbs_b ol.1
        unfold kSg
        rw [if_neg (by omega), this]
      | h =>
        unfold kSg
        by_cases z : l < 0
        · rw [if_pos z]
          show l * (0 - x) = (l.natAbs : Int) * x
          rw [show (l.natAbs : Int) = -l by omega, Int.zero_sub, Int.mul_neg, Int.neg_mul]
        · rw [if_neg z]
          show l * x = (l.natAbs : Int) * x
          rw [show (l.natAbs : Int) = l by omega]
    rw [key _ _ ha, key _ _ hb]
    exact e3
end Gen

namespace Gen
open PySem PySem.Spec PyProof.Rows L2 Mini Eud
theorem nab {x : Int} (h : 0 ≤ x) : (x.natAbs : Int) = x := by omega
theorem four (k : Kd) : ∀ A B C : Int, 0 ≤ A → 0 ≤ B → 0 ≤ C → kGcd k A (kLcm k B C) = kLcm k (kGcd k A B) (kGcd k A C) ∧ kLcm k A (kGcd k B C) = kGcd k (kLcm k A B) (kLcm k A C) ∧
    kGcd k (kGcd k A B) C = kGcd k A (kGcd k C B) ∧ kLcm k (kLcm k A B) C = kLcm k A (kLcm k C B) ∧ kTimes k (kGcd k A B) (kLcm k A B) = kTimes k A B :=
  all_k (P := fun k => ∀ A B C : Int, 0 ≤ A → 0 ≤ B → 0 ≤ C → kGcd k A (kLcm k B C) = kLcm k (kGcd k A B) (kGcd k A C) ∧ kLcm k A (kGcd k B C) = kGcd k (kLcm k A B) (kLcm k A C) ∧
    kGcd k (kGcd k A B) C = kGcd k A (kGcd k C B) ∧ kLcm k (kLcm k A B) C = kLcm k A (kLcm k C B) ∧ kTimes k (kGcd k A B) (kLcm k A B) = kTimes k A B) (fun α _ k M A B C hA hB hC => by
    have nA := nk_of_nn (k := k) hA
    have nB := nk_of_nn (k := k) hB
    have nC := nk_of_nn (k := k) hC
    have cA := (M.cnn A nA).mp hA
    have cB := (M.cnn B nB).mp hB
    have cC := (M.cnn C nC).mp hC
    have ng : ∀ x y, nk k x → nk k y → nk k (kGcd k x y) := fun x y hx hy => by rw [M.gcd x y hx hy]; exact M.nkd _
    have nl : ∀ x y, nk k x → nk k y → nk k (kLcm k x y) := fun x y hx hy => by rw [M.lcm x y hx hy]; exact M.nkd _
    have ug : ∀ x y, nk k x → nk k y → M.up (kGcd k x y) = eg (M.up x) (M.up y) := fun x y hx hy => by rw [M.gcd x y hx hy, M.ud]
    have ul : ∀ x y, nk k x → nk k y → M.up (kLcm k x y) = lc (M.up x) (M.up y) := fun x y hx hy => by rw [M.lcm x y hx hy, M.ud]
    refine ⟨?_, ?_, ?_, ?_, ?_⟩
    · refine em_inj M (ng _ _ nA (nl _ _ nB nC)) (nl _ _ (ng _ _ nA nB) (ng _ _ nA nC)) ?_
      rw [ug _ _ nA (nl _ _ nB nC), ul _ _ nB nC, ul _ _ (ng _ _ nA nB) (ng _ _ nA nC), ug _ _ nA nB, ug _ _ nA nC]
      exact eg_lc cA cB cC
    · refine em_inj M (nl _ _ nA (ng _ _ nB nC)) (ng _ _ (nl _ _ nA nB) (nl _ _ nA nC)) ?_
      rw [ul _ _ nA (ng _ _ nB nC), ug _ _ nB nC, ug _ _ (nl _ _ nA nB) (nl _ _ nA nC), ul _ _ nA nB, ul _ _ nA nC]
      exact lc_eg cA cB cC
    · refine em_inj M (ng _ _ (ng _ _ nA nB) nC) (ng _ _ nA (ng _ _ nC nB)) ?_
      rw [ug _ _ (ng _ _ nA nB) nC, ug _ _ nA nB, ug _ _ nA (ng _ _ nC nB), ug _ _ nC nB, eg_assoc cA cB cC, eg_comm cB cC]
    · refine em_inj M (nl _ _ (nl _ _ nA nB) nC) (nl _ _ nA (nl _ _ nC nB)) ?_
      rw [ul _ _ (nl _ _ nA nB) nC, ul _ _ nA nB, ul _ _ nA (nl _ _ nC nB), ul _ _ nC nB, lc_assoc cA cB cC, lc_comm cB cC]
    · rw [M.times _ _ (ng _ _ nA nB) (nl _ _ nA nB), M.times _ _ nA nB, ug _ _ nA nB, ul _ _ nA nB, lc_law]) k
theorem kTimes_ne (k : Kd) : ∀ a b : Int, nk k a → nk k b → a ≠ 0 → b ≠ 0 → kTimes k a b ≠ 0 :=
  all_k (P := fun k => ∀ a b : Int, nk k a → nk k b → a ≠ 0 → b ≠ 0 → kTimes k a b ≠ 0) (fun α _ k M a b ha hb za zb h => by
    have n : nk k (kTimes k a b) := by rw [M.times a b ha hb]; exact M.nkd _
    have := (em_z M n).mp h
    rw [M.times a b ha hb, M.ud] at this
    exact (Eu.nzd _ _ this).elim (fun e => za ((em_z M ha).mpr e)) fun e => zb ((em_z M hb).mpr e)) k
theorem kRest_gcd (k : Kd) : ∀ b A B p q : Int, 0 ≤ b → 0 ≤ A → 0 ≤ B → nk k p → nk k q → kTimes k b p = A → kTimes k b q = B → kRest k (kGcd k A B) b = 0 :=
  all_k (P := fun k => ∀ b A B p q : Int, 0 ≤ b → 0 ≤ A → 0 ≤ B → nk k p → nk k q → kTimes k b p = A → kTimes k b q = B → kRest k (kGcd k A B) b = 0) (fun α _ k M b A B p q hb hA hB np nq e1 e2 => by
    have nA := nk_of_nn (k := k) hA
    have nB := nk_of_nn (k := k) hB
    have nb := nk_of_nn (k := k) hb
    have ng : nk k (kGcd k A B) := by rw [M.gcd A B nA nB]; exact M.nkd _
    rw [em_rest M ng hb, M.dvd, M.gcd A B nA nB, M.ud]
    refine eg_max ⟨M.up p, ?_⟩ ⟨M.up q, ?_⟩
    · rw [← e1, M.times _ _ nb np, M.ud]
    · rw [← e2, M.times _ _ nb nq, M.ud]) k
theorem kLcm_nn {k : Kd} {a b : Int} (ha : 0 ≤ a) (hb : 0 ≤ b) : 0 ≤ kLcm k a b := by
  cases k
  · show (0 : Int) ≤ lc a b
    exact cn_lc (α := Int) ha hb
  · exact Int.natCast_nonneg _
theorem ok_lcm {k : Kd} {m n : Nat} {a b : Int} (ha : 0 ≤ a) (hb : 0 ≤ b) (h1 : a.natAbs < 2 ^ m) (h2 : b.natAbs < 2 ^ n) : ok k (m + n) (kLcm k a b) := by
  by_cases z : a = 0 ∨ b = 0
  · rw [kLcm_zero z]; exact ok_0
  · have g0 := kGcd_nn (k := k) ha hb
    have g1 : kGcd k a b ≠ 0 := fun e => z (.inl ((kGcd_eq_zero ha hb).mp e).1)
    rw [kLcm_go ha hb z]
    exact ok_times (ok_quo ⟨nk_of_nn ha, h1⟩ (by omega)) ⟨nk_of_nn hb, h2⟩
theorem kTimes_nn {k : Kd} {a b : Int} (ha : 0 ≤ a) (hb : 0 ≤ b) : 0 ≤ kTimes k a b := by
  cases k
  · exact Int.mul_nonneg ha hb
  · exact Int.natCast_nonneg _
end Gen

namespace Gen
open PySem PySem.Spec PyProof.Rows L2 Mini Eud
/-! what repr asks, for data of any build -/
structure Rp (m D : Nat) (d : PyData) : Prop where
  sh : PyData.showable d = true
  cl : PyData.canLay0 d = true
  dp : PyData.depth d ≤ D
  ln : (PyData.shown d).length ≤ m
theorem Rp.mono {m n D D' : Nat} {d : PyData} (h : Rp m D d) (h1 : m ≤ n) (h2 : D ≤ D') : Rp n D' d := ⟨h.sh, h.cl, Nat.le_trans h.dp h2, Nat.le_trans h.ln h1⟩
theorem Rp.shp {m D : Nat} {d : PyData} (h : Rp m D d) (hD : D ≤ 64 := by decide) : SeqAt.shaped d = true := by
  simp only [SeqAt.shaped, Bool.and_eq_true, decide_eq_true_eq]
  exact ⟨h.cl, Nat.le_trans h.dp hD⟩
theorem Rp.rp {m D : Nat} {d : PyData} (h : Rp m D d) (hm : m ≤ line := by decide) (hD : D ≤ 64 := by decide) : PyData.showable d = true ∧ SeqAt.shaped d = true ∧ (PyData.shown d).length ≤ line := ⟨h.sh, h.shp hD, Nat.le_trans h.ln hm⟩
theorem Rp_int {a : Int} (h : a.natAbs < 2 ^ 1000) : Rp 1901 0 (.int a) := ⟨(rp_int h).1, by simp only [PyData.canLay0], by simp only [PyData.depth]; omega, shown_int_le h (by decide)⟩
theorem Rp_bool {b : Bool} : Rp 5 0 (.bool b) := ⟨rfl, by simp only [PyData.canLay0], by simp only [PyData.depth]; omega, by cases b <;> decide⟩
theorem Rp_none : Rp 4 0 .none := ⟨rfl, by simp only [PyData.canLay0], by simp only [PyData.depth]; omega, by decide⟩
theorem Rp_all {m D : Nat} : ∀ {xs : List PyData}, (∀ x ∈ xs, Rp m D x) → PyData.showableAll xs = true ∧ PyData.canLayAll0 xs = true ∧ PyData.depthAll xs ≤ D ∧ ((PyData.shownAll xs).map (·.length)).sum ≤ m * xs.length
  | [], _ => ⟨rfl, rfl, by simp only [PyData.depthAll]; omega, by simp only [PyData.shownAll, List.map_nil, List.sum_nil]; omega⟩
  | x :: xs, h => by
    obtain ⟨i1, i2, i3, i4⟩ := Rp_all (xs := xs) fun y hy => h y (List.mem_cons_of_mem _ hy)
    have hx := h x (List.mem_cons_self ..)
    refine ⟨?_, ?_, ?_, ?_⟩
    · simp only [PyData.showableAll, hx.sh, i1, Bool.and_self]
    · simp only [PyData.canLayAll0, hx.cl, i2, Bool.and_self]
    · simp only [PyData.depthAll]; have := hx.dp; omega
    · simp only [PyData.shownAll, List.map_cons, List.sum_cons, List.length_cons, Nat.mul_add, Nat.mul_one]; have := hx.ln; omega
theorem Rp_list {m D : Nat} {xs : List PyData} (h : ∀ x ∈ xs, Rp m D x) : Rp ((m + 2) * xs.length + 4) (D + 1) (.list xs) := by
  obtain ⟨i1, i2, i3, i4⟩ := Rp_all h
  refine ⟨by simpa only [PyData.showable] using i1, by simpa only [PyData.canLay0] using i2, by simp only [PyData.depth]; omega, ?_⟩
  have e : PyData.shown (.list xs) = listText (PyData.shownAll xs) := by simp only [PyData.shown]
  rw [e]
  have := listText_len_le (PyData.shownAll xs)
  rw [PyData.shownAll_length] at this
  have : (m + 2) * xs.length = m * xs.length + 2 * xs.length := Nat.add_mul ..
  omega
theorem Rp_tup {m D : Nat} {xs : List PyData} (h : ∀ x ∈ xs, Rp m D x) : Rp ((m + 2) * xs.length + 5) (D + 1) (.tuple xs) := by
  obtain ⟨i1, i2, i3, i4⟩ := Rp_all h
  refine ⟨by simpa only [PyData.showable] using i1, by simpa only [PyData.canLay0] using i2, by simp only [PyData.depth]; omega, ?_⟩
  have e : PyData.shown (.tuple xs) = tupleText (PyData.shownAll xs) := by simp only [PyData.shown]
  rw [e]
  have := tupleText_len_le (PyData.shownAll xs)
  rw [PyData.shownAll_length] at this
  have : (m + 2) * xs.length = m * xs.length + 2 * xs.length := Nat.add_mul ..
  omega
end Gen

namespace Gen
open PySem PySem.Spec PyProof.Rows L2 Mini Eud
/-! divisors and multiples by trying -/
theorem kle {k : Kd} {m d : Int} (hm : 0 < m) (hd : 0 ≤ d) (h : kRest k m d = 0) : d ≤ m := by
  cases k with
  | h =>
    unfold kRest at h
    by_cases z : d = 0
    · rw [if_pos z] at h; omega
    · rw [if_neg z] at h
      exact Int.le_of_dvd hm (Int.dvd_of_emod_eq_zero h)
  | b =>
    unfold kRest at h
    by_cases z : d = 0
    · rw [if_pos z] at h; omega
    · rw [if_neg z] at h
      have e := kDiv_law (k := .b) (a := m) (b := d) (show 0 ≤ m by omega) (by omega)
      rw [h] at e
      have e2 : ((clm d.toNat (kQuo .b m d).toNat : Nat) : Int) = m := by
        have : kAdd .b (kTimes .b d (kQuo .b m d)) 0 = kTimes .b d (kQuo .b m d) := by
          show (((((clm d.toNat (kQuo .b m d).toNat : Nat) : Int)).toNat ^^^ (0 : Int).toNat : Nat) : Int) = ((clm d.toNat (kQuo .b m d).toNat : Nat) : Int)
          rw [Int.toNat_natCast, show (0 : Int).toNat = 0 from rfl, Nat.xor_zero]
        rw [this] at e
        exact e
      generalize (kQuo .b m d).toNat = q at e2
      have q0 : q ≠ 0 := by rintro rfl; rw [clm_zero] at e2; omega
      have d0 : d.toNat ≠ 0 := by omega
      have hb := blen_clm d0 q0
      by_cases q1 : q = 1
      · subst q1
        rw [clm_comm, clm_one_left] at e2
        omega
      · have : 2 ≤ blen q := by
          have h2 : ¬ blen q ≤ 1 := fun z => by have := blen_le_iff.mp z; omega
          omega
        have h3 : clm d.toNat q ≠ 0 := by omega
        have h4 := blen_ge h3
        have h5 := blen_lt d.toNat
        have h6 : 2 ^ blen d.toNat ≤ 2 ^ (blen (clm d.toNat q) - 1) := Nat.pow_le_pow_right (by decide) (by omega)
        omega
theorem gl (k : Kd) : ∀ A B x : Int, 0 ≤ A → 0 ≤ B → 0 ≤ x → kRest k A (kGcd k A B) = 0 ∧ kRest k B (kGcd k A B) = 0 ∧ (kRest k A x = 0 → kRest k B x = 0 → kRest k (kGcd k A B) x = 0) ∧ kRest k (kLcm k A B) A = 0 ∧ kRest k (kLcm k A B) B = 0 ∧
    (kRest k x A = 0 → kRest k x B = 0 → kRest k x (kLcm k A B) = 0) ∧ kRest k (kTimes k A B) A = 0 ∧ kRest k (kTimes k A B) B = 0 ∧ kGcd k A B = kGcd k B A :=
  all_k (P := fun k => ∀ A B x : Int, 0 ≤ A → 0 ≤ B → 0 ≤ x → kRest k A (kGcd k A B) = 0 ∧ kRest k B (kGcd k A B) = 0 ∧ (kRest k A x = 0 → kRest k B x = 0 → kRest k (kGcd k A B) x = 0) ∧ kRest k (kLcm k A B) A = 0 ∧ kRest k (kLcm k A B) B = 0 ∧
    (kRest k x A = 0 → kRest k x B = 0 → kRest k x (kLcm k A B) = 0) ∧ kRest k (kTimes k A B) A = 0 ∧ kRest k (kTimes k A B) B = 0 ∧ kGcd k A B = kGcd k B A) (fun α _ k M A B x hA hB hx => by
    have nA := nk_of_nn (k := k) hA
    have nB := nk_of_nn (k := k) hB
    have nx := nk_of_nn (k := k) hx
    have g0 := kGcd_nn (k := k) hA hB
    have l0 := kLcm_nn (k := k) hA hB
    have ng := nk_of_nn (k := k) g0
    have nl := nk_of_nn (k := k) l0
    have nt := nk_of_nn (k := k) (kTimes_nn (k := k) hA hB)
    have ug : M.up (kGcd k A B) = eg (M.up A) (M.up B) := by rw [M.gcd A B nA nB, M.ud]
    have ul : M.up (kLcm k A B) = lc (M.up A) (M.up B) := by rw [M.lcm A B nA nB, M.ud]
    have ut : M.up (kTimes k A B) = M.up A * M.up B := by rw [M.times A B nA nB, M.ud]
    rw [em_rest M nA g0, em_rest M nB g0, em_rest M nA hx, em_rest M nB hx, em_rest M ng hx, em_rest M nl hA, em_rest M nl hB, em_rest M nx hA, em_rest M nx hB, em_rest M nx l0, em_rest M nt hA, em_rest M nt hB]
    simp only [M.dvd, ug, ul, ut]
    exact ⟨eg_left _ _, eg_right _ _, fun a b => eg_max a b, lc_left, lc_right, fun a b => lc_min a b, dvd_mul _ _, dvd_mul' _ _, by
      rw [M.gcd A B nA nB, M.gcd B A nB nA, eg_comm ((M.cnn A nA).mp hA) ((M.cnn B nB).mp hB)]⟩) k
/-- paper's count -/
theorem pap_gcd {k : Kd} {a b c p q x y : Int} (na : nk k a) (nb : nk k b) (hc : 0 ≤ c) (np : nk k p) (nq : nk k q) (nx : nk k x) (ny : nk k y) (e1 : kTimes k c p = a) (e2 : kTimes k c q = b) (e3 : kAdd k (kTimes k a x) (kTimes k b y) = c) : c = kGcd k a.natAbs b.natAbs := by
  cases k with
  | h =>
    show c = eg ((a.natAbs : Int)) ((b.natAbs : Int))
    have e1' : c * p = a := e1
    have e2' : c * q = b := e2
    have e3' : a * x + b * y = c := e3
    have dA : dvd c ((a.natAbs : Int)) := by
      rcases Int.natAbs_eq a with h | h
      · exact ⟨p, by omega⟩
      · exact ⟨-p, by rw [Int.mul_neg]; omega⟩
    have dB : dvd c ((b.natAbs : Int)) := by
      rcases Int.natAbs_eq b with h | h
      · exact ⟨q, by omega⟩
      · exact ⟨-q, by rw [Int.mul_neg]; omega⟩
    have ha : dvd (eg ((a.natAbs : Int)) ((b.natAbs : Int))) a := by
      obtain ⟨t, ht⟩ := eg_left ((a.natAbs : Int)) ((b.natAbs : Int))
      rcases Int.natAbs_eq a with h | h
      · exact ⟨t, by omega⟩
      · exact ⟨-t, by rw [Int.mul_neg]; omega⟩
    have hb : dvd (eg ((a.natAbs : Int)) ((b.natAbs : Int))) b := by
      obtain ⟨t, ht⟩ := eg_right ((a.natAbs : Int)) ((b.natAbs : Int))
      rcases Int.natAbs_eq b with h | h
      · exact ⟨t, by omega⟩
      · exact ⟨-t, by rw [Int.mul_neg]; omega⟩
    refine asc' (show Eu.cn c from hc) (cn_eg (show (0 : Int) ≤ _ by omega) (show (0 : Int) ≤ _ by omega)) (eg_max dA dB) ?_
    rw [← e3']
    exact (ha.mul x).add (hb.mul y)
  | b =>
    rw [natAbs_b na, natAbs_b nb]
    have M := emB
    have nc : nk .b c := hc
    have nt : ∀ u v, nk .b u → nk .b v → nk .b (kTimes .b u v) := fun u v hu hv => by rw [M.times u v hu hv]; exact M.nkd _
    have ug : M.up (kGcd .b a b) = eg (M.up a) (M.up b) := by rw [M.gcd a b na nb, M.ud]
    have u1 : M.up c * M.up p = M.up a := by rw [← e1, M.times c p nc np, M.ud]
    have u2 : M.up c * M.up q = M.up b := by rw [← e2, M.times c q nc nq, M.ud]
    have u3 : M.up a * M.up x + M.up b * M.up y = M.up c := by rw [← e3, M.add _ _ (nt _ _ na nx) (nt _ _ nb ny), M.ud, M.times a x na nx, M.times b y nb ny, M.ud, M.ud]
    refine em_inj M nc (by rw [M.gcd a b na nb]; exact M.nkd _) ?_
    rw [ug]
    refine asc' ((M.cnn c nc).mp hc) (cn_eg ((M.cnn a na).mp na) ((M.cnn b nb).mp nb)) (eg_max ⟨M.up p, u1.symm⟩ ⟨M.up q, u2.symm⟩) ?_
    rw [← u3]
    exact ((eg_left _ _).mul _).add ((eg_right _ _).mul _)
/-- the divisor by trying -/
theorem max_found {k : Kd} {A B : Int} (hA : 0 < A) (hB : 0 < B) (l : List Int) (hl : ∀ x, x ∈ l ↔ (1 ≤ x ∧ x ≤ A + B) ∧ kRest k A x = 0 ∧ kRest k B x = 0) : kGcd k A B ∈ l ∧ maxL l = kGcd k A B := by
  obtain ⟨h1, h2, _⟩ := gl k A B 0 (by omega) (by omega) (by omega)
  have g0 := kGcd_nn (k := k) (show 0 ≤ A by omega) (show 0 ≤ B by omega)
  have gz : kGcd k A B ≠ 0 := fun e => by have := (kGcd_eq_zero (k := k) (show 0 ≤ A by omega) (show 0 ≤ B by omega)).mp e; omega
  have gA := kle hA g0 h1
  have hm := (hl _).mpr ⟨⟨show 1 ≤ kGcd k A B by omega, by omega⟩, h1, h2⟩
  refine ⟨hm, (maxL_spec l _ hm fun y hy => ?_).symm⟩
  obtain ⟨⟨y1, _⟩, y2, y3⟩ := (hl y).mp hy
  have := (gl k A B y (by omega) (by omega) (by omega)).2.2.1 y2 y3
  exact kle (by omega) (by omega) this
theorem lcm_pos {k : Kd} {A B : Int} (hA : 0 < A) (hB : 0 < B) : 0 < kLcm k A B := by
  have l0 := kLcm_nn (k := k) (show 0 ≤ A by omega) (show 0 ≤ B by omega)
  have g0 := kGcd_nn (k := k) (show 0 ≤ A by omega) (show 0 ≤ B by omega)
  have := (four k A B 0 (by omega) (by omega) (by omega)).2.2.2.2
  have n := kTimes_ne k A B (nk_of_nn (by omega)) (nk_of_nn (by omega)) (by omega) (by omega)
  have : kLcm k A B ≠ 0 := fun e => by
    rw [e] at this
    apply n
    rw [← this, kTimes_comm]
    cases k
    · exact Int.zero_mul _
    · show ((clm (0 : Int).toNat _ : Nat) : Int) = 0
      rw [show (0 : Int).toNat = 0 from rfl, clm_zero_left]; rfl
  omega
theorem lcm_span {k : Kd} {A B : Int} (hA : 0 < A) (hB : 0 < B) : max A B ≤ kLcm k A B ∧ kLcm k A B ≤ kTimes k A B := by
  obtain ⟨_, _, _, h4, h5, _, h7, h8, _⟩ := gl k A B 0 (by omega) (by omega) (by omega)
  have lp := lcm_pos (k := k) hA hB
  have l1 := kle (k := k) lp (show 0 ≤ A by omega) h4
  have l2 := kle (k := k) lp (show 0 ≤ B by omega) h5
  have tn := kTimes_nn (k := k) (show 0 ≤ A by omega) (show 0 ≤ B by omega)
  have tz := kTimes_ne k A B (nk_of_nn (by omega)) (nk_of_nn (by omega)) (by omega) (by omega)
  have h6 := (gl k A B (kTimes k A B) (by omega) (by omega) tn).2.2.2.2.2.1 h7 h8
  have l3 := kle (k := k) (show 0 < kTimes k A B by omega) (by omega) h6
  omega
/-- the first multiple of both -/
theorem first_lcm {k : Kd} {A B m : Int} (hA : 0 < A) (hB : 0 < B) (hm : 0 < m) (h1 : kRest k m A = 0) (h2 : kRest k m B = 0) (hn : ∀ y, max A B ≤ y → y < m → ¬(kRest k y A = 0 ∧ kRest k y B = 0)) : m = kLcm k A B := by
  obtain ⟨_, _, _, h4, h5, _⟩ := gl k A B 0 (by omega) (by omega) (by omega)
  have h6 := (gl k A B m (by omega) (by omega) (by omega)).2.2.2.2.2.1 h1 h2
  have l0 := lcm_pos (k := k) hA hB
  have l1 := kle hm (by omega) h6
  have l2 := (lcm_span (k := k) hA hB).1
  by_cases e : m = kLcm k A B
  · exact e
  · exact absurd ⟨h4, h5⟩ (hn (kLcm k A B) l2 (by omega))
end Gen

namespace Gen
open PySem PySem.Spec PyProof.Rows L2 Mini Eud
local macro_rules
  | `(tactic| walk_at "dn") => `(tactic| simp only [denF, denB, denS, den, denL, denO, denI, denC, DE.of, testOf, boolOf, strict1, strict2, ex_eq_some, ex_ss, ex_di, ex_none, ex_call, ex_look2, ex_look1, ex_tru, some_if, some_map, map_some, looks_nil, looks_d, datas_nil, datas_d, ex_some2, tru_none, tru_bool, tru_int, tru_list, cmp_eq_int, cmp_ne_int, cmp_lt, cmp_le, cmp_gt, cmp_ge, cmp_eq_str, cmp_ne_str, op_add, op_sub, op_mul, op_fdv, op_mod, op_pow, op_shl, op_shr, op_and, op_or, op_xor, op_cat, un_neg, is_none, in_none, in_int, in_str, in_list, blt_len, blt_int, blt_abs, blt_max, blt_min, blt_repr, blt_sum, isi_int_int, isi_int_bool, isi_int_str, isi_str_str, isi_str_int, isi_str_bool, isi_bool_bool, isi_bool_int, isi_none_int, isi_none_str, isi_list_list, isi_list_int, isi_list_str, idx_list, idx_tuple, in2, spI1_at, spD_at, spKD_at, spKD_h, spKD_b, isW_int, isC_int, isN_int, isN_h, isN_b, sp_check_number_at, spK0_at, spK0_h, spK0_b, spK1_at, spK1_h, spK1_b, spK2_at, spK2_h, spK2_b, nk, kS_h, kS_b, l2, hours_bits, bits_hours, List.map_cons, List.map_nil, List.cons_append, List.nil_append, List.replicate_succ, List.replicate_zero, Nat.reduceSub, Nat.reduceAdd, List.getElem?_cons_zero, List.getElem?_cons_succ, List.set_cons_zero, List.set_cons_succ, if_true, if_false, Bool.false_eq_true, decide_eq_true_eq, decide_true, decide_false, Bool.not_true, Bool.not_false, Bool.or_true, Bool.true_or, Bool.or_false, Bool.false_or, exists_eq_left', true_and, and_true, eq_self, List.length_cons, List.length_nil, List.take_length, fin_d, fin_t, Bool.not_eq_true', decide_eq_false_iff_not, and_self, Bool.true_eq_false, reduceCtorEq])
local macro_rules
  | `(tactic| walk_at "dm") => `(tactic| simp only [denF, denB, denS, den, denL, denO, denI, denC, DE.of, testOf, boolOf, strict1, strict2, ex_eq_some, ex_ss, ex_di, ex_none, ex_call, ex_look2, ex_look1, ex_tru, some_if, some_map, map_some, looks_nil, looks_d, datas_nil, datas_d, ex_some2, tru_none, tru_bool, tru_int, tru_list, cmp_eq_int, cmp_ne_int, cmp_lt, cmp_le, cmp_gt, cmp_ge, cmp_eq_str, cmp_ne_str, op_add, op_sub, op_mul, op_fdv, op_mod, op_pow, op_shl, op_shr, op_and, op_or, op_xor, op_cat, un_neg, is_none, in_none, in_int, in_str, in_list, blt_len, blt_int, blt_abs, blt_max, blt_min, blt_repr, blt_sum, isi_int_int, isi_int_bool, isi_int_str, isi_str_str, isi_str_int, isi_str_bool, isi_bool_bool, isi_bool_int, isi_none_int, isi_none_str, isi_list_list, isi_list_int, isi_list_str, idx_list, idx_tuple, in2, spI1_at, spD_at, spKD_at, spKD_h, spKD_b, isW_int, isC_int, isN_int, isN_h, isN_b, sp_check_number_at, spK0_at, spK0_h, spK0_b, spK1_at, spK1_h, spK1_b, spK2_at, spK2_h, spK2_b, kS_h, kS_b, l2, hours_bits, bits_hours, List.map_cons, List.map_nil, List.cons_append, List.nil_append, List.replicate_succ, List.replicate_zero, Nat.reduceSub, Nat.reduceAdd, List.getElem?_cons_zero, List.getElem?_cons_succ, List.set_cons_zero, List.set_cons_succ, if_true, if_false, Bool.false_eq_true, decide_eq_true_eq, decide_true, decide_false, Bool.not_true, Bool.not_false, Bool.or_true, Bool.true_or, Bool.or_false, Bool.false_or, exists_eq_left', true_and, and_true, eq_self, List.length_cons, List.length_nil, List.take_length, fin_d, fin_t, Bool.not_eq_true', decide_eq_false_iff_not, and_self, Bool.true_eq_false, reduceCtorEq])
local macro_rules
  | `(tactic| walk_at "dx") => `(tactic| ((try simp only [blt_len_t, isi_tt, at20, at21, ex_eq_some, cmp_eq_none, sp_thing_fits_at]); walk_at "dm"))
theorem abs_if {a : Int} : (if a < 0 then -a else a) = (a.natAbs : Int) := by split <;> omega
def sp_turned_in : Mini.Spec := spK1 nk fun k a => .int (kNeg k a)
def sp_with_sign : Mini.Spec := fun es st Q _ => ∃ k a l, es = [.d (.str (kS k)), .d (.int a), .d (.int l)] ∧ nk k a ∧ Q (.d (.int (kSg k a l))) st
theorem sp_with_sign_at {k : Kd} {a l : Int} {st Q X} : sp_with_sign [.d (.str (kS k)), .d (.int a), .d (.int l)] st Q X ↔ nk k a ∧ Q (.d (.int (kSg k a l))) st := by
  constructor
  · rintro ⟨k', a', l', e, p, q⟩
    simp only [List.cons.injEq, EV.d.injEq, PyData.str.injEq, PyData.int.injEq, and_true] at e
    obtain ⟨e1, rfl, rfl⟩ := e
    cases kS_inj e1
    exact ⟨p, q⟩
  · rintro ⟨p, q⟩
    exact ⟨k, a, l, rfl, p, q⟩
def sp_divisor : Mini.Spec := spK2 (fun k a b => (nk k a ∧ nk k b) ∧ sh a ∧ sh b) fun k a b => .int (kGcd k a.natAbs b.natAbs)
def sp_multiple : Mini.Spec := spK2 (fun k a b => (nk k a ∧ nk k b) ∧ sh a ∧ sh b) fun k a b => .int (kLcm k a.natAbs b.natAbs)
def papT (k : Kd) (a b : Int) : PyData := if kGcd k a.natAbs b.natAbs = 0 then .tuple [.int 0, .int 0, .int 0, .int 0, .int 0] else
  .tuple [.int (kGcd k a.natAbs b.natAbs), .int (kSg k (kQuo k a.natAbs (kGcd k a.natAbs b.natAbs)) a), .int (kSg k (kQuo k b.natAbs (kGcd k a.natAbs b.natAbs)) b), .int (kSg k (kF k a b) a), .int (kSg k (kG k a b) b)]
def sp_divisor_paper : Mini.Spec := spK2 (fun k a b => ok k 300 a ∧ ok k 300 b) papT
/-- what is a paper -/
def smp (d : PyData) : Prop := Rp 2000 2 d ∧ ∀ i, d = .int i → sh i
def vOk (v : PyData) : Prop := ∀ ds, v = .tuple ds → ds.length = 5 → ∀ d ∈ ds, smp d
def pjC (k : Kd) (a b c p q x y : Int) : Prop := 0 ≤ c ∧ kTimes k c p = a ∧ kTimes k c q = b ∧ kAdd k (kTimes k a x) (kTimes k b y) = c
instance {k : Kd} {a b c p q x y : Int} : Decidable (pjC k a b c p q x y) := by unfold pjC; infer_instance
def pjB (k : Kd) (a b : Int) : PyData → Bool
  | .tuple [.int c, .int p, .int q, .int x, .int y] => (isN k (.int c) && isN k (.int p) && isN k (.int q) && isN k (.int x) && isN k (.int y)) && decide (pjC k a b c p q x y)
  | _ => false
def sp_is_divisor_paper : Mini.Spec := fun es st Q _ => ∃ (k : Kd) (a b : Int) (v : PyData), es = [.d (.str (kS k)), .d (.int a), .d (.int b), .d v] ∧ ((nk k a ∧ nk k b) ∧ sh a ∧ sh b ∧ vOk v) ∧ Q (.d (.bool (pjB k a b v))) st
theorem isN_nk {k : Kd} {d : PyData} (h : isN k d = true) : ∃ i, d = .int i ∧ nk k i := by
  cases d with
  | int i =>
    refine ⟨i, rfl, ?_⟩
    cases k with
    | h => exact trivial
    | b =>
      have h' : decide ((0 : Int) ≤ i) = true := h
      have h2 : (0 : Int) ≤ i := of_decide_eq_true h'
      exact h2
  | _ => cases h
theorem nk_isN {k : Kd} {i : Int} (h : nk k i) : isN k (.int i) = true := by
  cases k with
  | h => rfl
  | b => exact decide_eq_true (show 0 ≤ i from h)
theorem pj_true {k : Kd} {a b : Int} {v : PyData} (h : pjB k a b v = true) : ∃ c p q x y, v = .tuple [.int c, .int p, .int q, .int x, .int y] ∧ (nk k c ∧ nk k p ∧ nk k q ∧ nk k x ∧ nk k y) ∧ pjC k a b c p q x y := by
  unfold pjB at h
  split at h
  · rename_i c p q x y
    simp only [Bool.and_eq_true, decide_eq_true_eq] at h
    obtain ⟨⟨⟨⟨⟨h1, h2⟩, h3⟩, h4⟩, h5⟩, h6⟩ := h
    have key : ∀ {i : Int}, isN k (.int i) = true → nk k i := fun h => by obtain ⟨j, e, n⟩ := isN_nk h; cases e; exact n
    exact ⟨c, p, q, x, y, rfl, ⟨key h1, key h2, key h3, key h4, key h5⟩, h6⟩
  · cases h
theorem pj_ints {k : Kd} {a b c p q x y : Int} (h : nk k c ∧ nk k p ∧ nk k q ∧ nk k x ∧ nk k y) : pjB k a b (.tuple [.int c, .int p, .int q, .int x, .int y]) = decide (pjC k a b c p q x y) := by
  obtain ⟨h1, h2, h3, h4, h5⟩ := h
  show ((isN k (.int c) && isN k (.int p) && isN k (.int q) && isN k (.int x) && isN k (.int y)) && decide (pjC k a b c p q x y)) = _
  rw [nk_isN h1, nk_isN h2, nk_isN h3, nk_isN h4, nk_isN h5]
  rfl
theorem pj_case (k : Kd) (a b : Int) (v : PyData) : (isiF v "tuple" = some false ∧ pjB k a b v = false) ∨ (∃ ds, v = .tuple ds ∧ ds.length ≠ 5 ∧ pjB k a b v = false) ∨
    (∃ ds, v = .tuple ds ∧ ds.length = 5 ∧ (∃ d ∈ ds, isN k d = false) ∧ pjB k a b v = false) ∨
    (∃ c p q x y, v = .tuple [.int c, .int p, .int q, .int x, .int y] ∧ (nk k c ∧ nk k p ∧ nk k q ∧ nk k x ∧ nk k y) ∧ pjB k a b v = decide (pjC k a b c p q x y)) := by
  cases v with
  | tuple ds =>
    right
    by_cases hl : ds.length = 5
    · right
      match ds, hl with
      | [d1, d2, d3, d4, d5], _ =>
        by_cases hn : isN k d1 = true ∧ isN k d2 = true ∧ isN k d3 = true ∧ isN k d4 = true ∧ isN k d5 = true
        · right
          obtain ⟨h1, h2, h3, h4, h5⟩ := hn
          obtain ⟨c, rfl, n1⟩ := isN_nk h1
          obtain ⟨p, rfl, n2⟩ := isN_nk h2
          obtain ⟨q, rfl, n3⟩ := isN_nk h3
          obtain ⟨x, rfl, n4⟩ := isN_nk h4
          obtain ⟨y, rfl, n5⟩ := isN_nk h5
          exact ⟨c, p, q, x, y, rfl, ⟨n1, n2, n3, n4, n5⟩, pj_ints ⟨n1, n2, n3, n4, n5⟩⟩
        · left
          refine ⟨_, rfl, rfl, ?_, ?_⟩
          · cases e1 : isN k d1 with
            | false => exact ⟨d1, by simp, e1⟩
            | true => cases e2 : isN k d2 with
              | false => exact ⟨d2, by simp, e2⟩
              | true => cases e3 : isN k d3 with
                | false => exact ⟨d3, by simp, e3⟩
                | true => cases e4 : isN k d4 with
                  | false => exact ⟨d4, by simp, e4⟩
                  | true => cases e5 : isN k d5 with
                    | false => exact ⟨d5, by simp, e5⟩
                    | true => exact absurd ⟨e1, e2, e3, e4, e5⟩ hn
          · rw [Bool.eq_false_iff]
            intro h
            obtain ⟨c, p, q, x, y, e, ⟨n1, n2, n3, n4, n5⟩, _⟩ := pj_true h
            simp only [PyData.tuple.injEq, List.cons.injEq, and_true] at e
            obtain ⟨rfl, rfl, rfl, rfl, rfl⟩ := e
            exact hn ⟨nk_isN n1, nk_isN n2, nk_isN n3, nk_isN n4, nk_isN n5⟩
    · left
      refine ⟨ds, rfl, hl, ?_⟩
      rw [Bool.eq_false_iff]
      intro h
      obtain ⟨c, p, q, x, y, e, _⟩ := pj_true h
      cases e
      exact hl rfl
  | none => exact .inl ⟨(by decide : kitB "NoneType" "tuple" = some false), rfl⟩
  | bool _ => exact .inl ⟨(by decide : kitB "bool" "tuple" = some false), rfl⟩
  | int _ => exact .inl ⟨(by decide : kitB "int" "tuple" = some false), rfl⟩
  | str _ => exact .inl ⟨(by decide : kitB "str" "tuple" = some false), rfl⟩
  | list _ => exact .inl ⟨(by decide : kitB "list" "tuple" = some false), rfl⟩
  | dict _ => exact .inl ⟨(by decide : kitB "dict" "tuple" = some false), rfl⟩
theorem ne_nil {xs : List PyData} (h : SeqAt.shaped (.list xs) = true) : cmpF .NotEq (.list xs) (.list []) = some (!xs.isEmpty) := by
  have h2 : SeqAt.shaped (.list []) = true := by decide +kernel
  simp only [cmpF, h, h2, and_self, or_true, if_true, eqv_nil]
theorem bad_shp {p : PyData → Bool} {ds : List PyData} (h : ∀ d ∈ ds, smp d) : SeqAt.shaped (.list ((ds.filter p).map id)) = true := by
  rw [List.map_id]
  exact (Rp_list (m := 2000) (D := 2) fun x hx => (h x ((List.mem_filter.mp hx).1)).1).shp
theorem op_rpt {xs : List PyData} {k : Int} : opF .Mult (.list xs) (.int k) = if -(2 ^ 63) ≤ k ∧ k < 2 ^ 63 ∧ xs.length * k.toNat ≤ line then some (.list (List.replicate k.toNat xs).flatten) else none := rfl
def N_turned_in : List Str := ["kind", "number"]
@[simp] def d_turned_in : Def := ⟨2, 2, 0,
  (.cons (.ret (.ite (.cmp .Eq (.var 0) (.cst (.str "hours"))) (.bin .Sub (.cst (.int 0)) (.var 1)) (.var 1))) .nil)⟩
@[simp] def T_turned_in : Tab := ⟨[], [], []⟩
def N_with_sign : List Str := ["kind", "number", "like"]
@[simp] def d_with_sign : Def := ⟨3, 3, 0,
  (.cons (.ret (.ite (.cmp .Lt (.var 2) (.cst (.int 0))) (.call 0 (.cons (.var 0) (.cons (.var 1) .nil))) (.var 1))) .nil)⟩
@[simp] def T_with_sign : Tab := ⟨[("turned_in", 2, sp_turned_in)], [], []⟩
def N_divisor_paper : List Str := ["kind", "one", "other", "count", "first", "left", "second", "parts", "signed", "item", "like"]
def d_divisor_paper_8 : B := .cons
  (.ret (.blt .tuple (.cons (.bin .Add (.lst false (.cons (.var 3) .nil)) (.var 8)) .nil)))
  .nil
def d_divisor_paper_7 : B := .cons
  (.asg (.var 8) (.comp [("item", 9), ("like", 10)] (.tup (.cons (.var 9) (.cons (.var 10) .nil))) (.zips (.bin .Add (.var 7) (.lst false (.cons (.var 4) (.cons (.var 6) .nil)))) (.bin .Mult (.lst false (.cons (.var 1) (.cons (.var 2) .nil))) (.cst (.int 2)))) .none (.call 6 (.cons (.var 0) (.cons (.var 9) (.cons (.var 10) .nil))))))
  d_divisor_paper_8
def d_divisor_paper_6 : B := .cons
  (.asg (.var 7) (.lst false (.cons (.call 5 (.cons (.var 0) (.cons (.blt .abs (.cons (.var 1) .nil)) (.cons (.var 3) .nil)))) (.cons (.call 5 (.cons (.var 0) (.cons (.blt .abs (.cons (.var 2) .nil)) (.cons (.var 3) .nil)))) .nil))))
  d_divisor_paper_7
def d_divisor_paper_5 : B := .cons
  (.asg (.var 6) (.ite (.cmp .NotEq (.var 2) (.cst (.int 0))) (.call 5 (.cons (.var 0) (.cons (.var 5) (.cons (.blt .abs (.cons (.var 2) .nil)) .nil)))) (.cst (.int 0))))
  d_divisor_paper_6
def d_divisor_paper_4 : B := .cons
  (.asg (.var 5) (.call 3 (.cons (.var 0) (.cons (.var 3) (.cons (.ite (.cmp .Eq (.var 0) (.cst (.str "hours"))) (.call 4 (.cons (.var 0) (.cons (.blt .abs (.cons (.var 1) .nil)) (.cons (.var 4) .nil)))) (.call 4 (.cons (.var 0) (.cons (.var 4) (.cons (.var 1) .nil))))) .nil)))))
  d_divisor_paper_5
def d_divisor_paper_3 : B := .cons
  (.asg (.var 4) (.call 2 (.cons (.var 0) (.cons (.blt .abs (.cons (.var 1) .nil)) (.cons (.blt .abs (.cons (.var 2) .nil)) .nil)))))
  d_divisor_paper_4
def d_divisor_paper_2 : B := .cons
  (.ite (.cmp .Eq (.var 3) (.cst (.int 0))) (.cons (.ret (.tup (.cons (.cst (.int 0)) (.cons (.cst (.int 0)) (.cons (.cst (.int 0)) (.cons (.cst (.int 0)) (.cons (.cst (.int 0)) .nil))))))) .nil) .nil)
  d_divisor_paper_3
def d_divisor_paper_1 : B := .cons
  (.asg (.var 3) (.call 1 (.cons (.var 0) (.cons (.blt .abs (.cons (.var 1) .nil)) (.cons (.blt .abs (.cons (.var 2) .nil)) .nil)))))
  d_divisor_paper_2
def d_divisor_paper_0 : B := .cons
  (.expr (.call 0 (.cons (.var 0) (.cons (.var 1) (.cons (.var 2) .nil)))))
  d_divisor_paper_1
@[simp] def d_divisor_paper : Def := ⟨3, 11, 0,
  d_divisor_paper_0⟩
@[simp] def T_divisor_paper : Tab := ⟨[("check_pair", 3, sp_check_pair), ("divisor_in", 3, sp_divisor_in), ("bezout_in", 3, sp_bezout_in), ("less_in", 3, sp_less_in), ("times_in", 3, sp_times_in), ("over_in", 3, sp_over_in), ("with_sign", 3, sp_with_sign)], [], ["abs", "zip", "tuple"]⟩
def N_divisor : List Str := ["kind", "one", "other"]
@[simp] def d_divisor : Def := ⟨3, 3, 0,
  (.cons (.expr (.call 0 (.cons (.var 0) (.cons (.var 1) (.cons (.var 2) .nil))))) (.cons (.ret (.call 1 (.cons (.var 0) (.cons (.blt .abs (.cons (.var 1) .nil)) (.cons (.blt .abs (.cons (.var 2) .nil)) .nil))))) .nil))⟩
@[simp] def T_divisor : Tab := ⟨[("check_pair", 3, sp_check_pair), ("divisor_in", 3, sp_divisor_in)], [], ["abs"]⟩
def N_multiple : List Str := ["kind", "one", "other"]
@[simp] def d_multiple : Def := ⟨3, 3, 0,
  (.cons (.expr (.call 0 (.cons (.var 0) (.cons (.var 1) (.cons (.var 2) .nil))))) (.cons (.ret (.call 1 (.cons (.var 0) (.cons (.blt .abs (.cons (.var 1) .nil)) (.cons (.blt .abs (.cons (.var 2) .nil)) .nil))))) .nil))⟩
@[simp] def T_multiple : Tab := ⟨[("check_pair", 3, sp_check_pair), ("multiple_in", 3, sp_multiple_in)], [], ["abs"]⟩
def N_is_divisor_paper : List Str := ["kind", "one", "other", "value", "count", "low", "high", "first", "second", "item"]
def d_is_divisor_paper_5 : B := .cons
  (.ret (.cmp .Eq (.call 4 (.cons (.var 0) (.cons (.call 3 (.cons (.var 0) (.cons (.var 1) (.cons (.var 7) .nil)))) (.cons (.call 3 (.cons (.var 0) (.cons (.var 2) (.cons (.var 8) .nil)))) .nil)))) (.var 4)))
  .nil
def d_is_divisor_paper_4 : B := .cons
  (.ite (.bop .Or (.cons (.un .Not (.call 2 (.cons (.var 4) .nil))) (.cons (.cmp .NotEq (.call 3 (.cons (.var 0) (.cons (.var 4) (.cons (.var 5) .nil)))) (.var 1)) (.cons (.cmp .NotEq (.call 3 (.cons (.var 0) (.cons (.var 4) (.cons (.var 6) .nil)))) (.var 2)) .nil)))) (.cons (.ret (.cst (.bool false))) .nil) .nil)
  d_is_divisor_paper_5
def d_is_divisor_paper_3 : B := .cons
  (.asg (.tup (.cons (.var 4) (.cons (.var 5) (.cons (.var 6) (.cons (.var 7) (.cons (.var 8) .nil)))))) (.var 3))
  d_is_divisor_paper_4
def d_is_divisor_paper_2 : B := .cons
  (.ite (.cmp .NotEq (.comp [("item", 9)] (.var 9) (.dat (.var 3)) (.some (.un .Not (.call 1 (.cons (.var 0) (.cons (.var 9) .nil))))) (.var 9)) (.lst false .nil)) (.cons (.ret (.cst (.bool false))) .nil) .nil)
  d_is_divisor_paper_3
def d_is_divisor_paper_1 : B := .cons
  (.ite (.bop .Or (.cons (.un .Not (.isi (.var 3) "tuple")) (.cons (.cmp .NotEq (.blt .len (.cons (.var 3) .nil)) (.cst (.int 5))) .nil))) (.cons (.ret (.cst (.bool false))) .nil) .nil)
  d_is_divisor_paper_2
def d_is_divisor_paper_0 : B := .cons
  (.expr (.call 0 (.cons (.var 0) (.cons (.var 1) (.cons (.var 2) .nil)))))
  d_is_divisor_paper_1
@[simp] def d_is_divisor_paper : Def := ⟨4, 10, 0,
  d_is_divisor_paper_0⟩
@[simp] def T_is_divisor_paper : Tab := ⟨[("check_pair", 3, sp_check_pair), ("is_number_of", 2, sp_is_number_of), ("is_count", 1, sp_is_count), ("times_in", 3, sp_times_in), ("add_in", 3, sp_add_in)], [], ["isinstance", "tuple", "len"]⟩
theorem b_turned_in : ∀ (es : List EV) (s : ST) (Q : QE) (X : QX), es.length = d_turned_in.np → sp_turned_in es s Q X → denF T_turned_in d_turned_in es s Q X := by
  rintro es s Q X hl ⟨k, a, rfl, p, q⟩
  simp only [T_turned_in, d_turned_in]
  cases k
  · walk_at "dm"
    exact q
  · walk_at "dm"
    exact q
theorem b_with_sign : ∀ (es : List EV) (s : ST) (Q : QE) (X : QX), es.length = d_with_sign.np → sp_with_sign es s Q X → denF T_with_sign d_with_sign es s Q X := by
  rintro es s Q X hl ⟨k, a, l, rfl, p, q⟩
  simp only [T_with_sign, d_with_sign, sp_turned_in]
  walk_at "dm"
  unfold kSg at q
  by_cases z : l < 0
  · rw [if_pos z] at q ⊢
    exact ⟨p, q⟩
  · rw [if_neg z] at q ⊢
    exact q
theorem b_divisor : ∀ (es : List EV) (s : ST) (Q : QE) (X : QX), es.length = d_divisor.np → sp_divisor es s Q X → denF T_divisor d_divisor es s Q X := by
  rintro es s Q X hl ⟨k, a, b, rfl, ⟨⟨p1, p2⟩, s1, s2⟩, q⟩
  simp only [T_divisor, d_divisor, sp_check_pair, sp_divisor_in]
  walk_at "dm"
  rw [abs_if, abs_if]
  exact ⟨⟨p1, p2⟩, ⟨by omega, by omega, by unfold sh at s1 ⊢; omega, by unfold sh at s2 ⊢; omega⟩, q⟩
theorem b_multiple : ∀ (es : List EV) (s : ST) (Q : QE) (X : QX), es.length = d_multiple.np → sp_multiple es s Q X → denF T_multiple d_multiple es s Q X := by
  rintro es s Q X hl ⟨k, a, b, rfl, ⟨⟨p1, p2⟩, s1, s2⟩, q⟩
  simp only [T_multiple, d_multiple, sp_check_pair, sp_multiple_in]
  walk_at "dm"
  rw [abs_if, abs_if]
  exact ⟨⟨p1, p2⟩, ⟨by omega, by omega, by unfold sh at s1 ⊢; omega, by unfold sh at s2 ⊢; omega⟩, q⟩
def fSg (k : Kd) : PyData → PyData
  | .tuple [.int x, .int l] => .int (kSg k x l)
  | d => d
set_option exponentiation.threshold 2000 in
set_option maxHeartbeats 4000000 in
theorem b_divisor_paper : ∀ (es : List EV) (s : ST) (Q : QE) (X : QX), es.length = d_divisor_paper.np → sp_divisor_paper es s Q X → denF T_divisor_paper d_divisor_paper es s Q X := by
  rintro es s Q X hl ⟨k, a, b, rfl, ⟨oa, ob⟩, q⟩
  simp only [T_divisor_paper, d_divisor_paper, d_divisor_paper_0, sp_check_pair, sp_divisor_in, sp_bezout_in, sp_less_in, sp_times_in, sp_over_in]
  have hA : (0 : Int) ≤ a.natAbs := by omega
  have hB : (0 : Int) ≤ b.natAbs := by omega
  have oA : ok k 300 (a.natAbs : Int) := ⟨nk_of_nn hA, by rw [Int.natAbs_natCast]; exact oa.2⟩
  have oB : ok k 300 (b.natAbs : Int) := ⟨nk_of_nn hB, by rw [Int.natAbs_natCast]; exact ob.2⟩
  have og : ok k 300 (kGcd k a.natAbs b.natAbs) := kGcd_le (k := k) hA hB oA.2 oB.2
  walk_at "dm"
  refine ⟨⟨oa.1, ob.1⟩, ?_⟩
  simp only [d_divisor_paper_1]
  walk_at "dm"
  rw [abs_if, abs_if]
  refine ⟨⟨hA, hB, oA.sh (by decide), oB.sh (by decide)⟩, ?_⟩
  simp only [d_divisor_paper_2]
  walk_at "dm"
  unfold papT at q
  by_cases z : kGcd k a.natAbs b.natAbs = 0
  · rw [if_pos z] at q ⊢
    exact ⟨by decide, q⟩
  rw [if_neg z] at q ⊢
  simp only [d_divisor_paper_3]
  walk_at "dm"
  simp only [abs_if]
  have P4 : (2 : Nat) ^ 300 ≤ 2 ^ 400 := Nat.pow_le_pow_right (by decide) (by decide)
  have oF : ok k 301 (kF k a b) := kBz_ok (k := k) hA hB oB.2
  have oAF := ok_times oA oF
  have oL : ok k 602 (kLess k (kGcd k a.natAbs b.natAbs) (kTimes k a.natAbs (kF k a b))) := ok_less (m := 601) (og.mono (by decide)) oAF
  refine ⟨⟨hA, hB, Nat.lt_of_lt_of_le oA.2 P4, Nat.lt_of_lt_of_le oB.2 P4⟩, ?_⟩
  show denB _ _ [_, _, _, _, some (.d (.int (kF k a b))), _, _, _, _, _, _] _ _
  have rest5 : denB T_divisor_paper d_divisor_paper_5 [some (.d (.str (kS k))), some (.d (.int a)), some (.d (.int b)), some (.d (.int (kGcd k a.natAbs b.natAbs))), some (.d (.int (kF k a b))), some (.d (.int (kLess k (kGcd k a.natAbs b.natAbs) (kTimes k a.natAbs (kF k a b))))), none, none, none, none, none] s
      { nx := fun _ s_1 => Q (.d .none) (List.take s.length s_1), rt := fun v s_1 => fin 0 s.length Q v s_1, bk := fun _ _ => False, ct := fun _ _ => False, ex := finX s.length X } := by
    simp only [T_divisor_paper, d_divisor_paper_5, sp_over_in, sp_check_pair, sp_divisor_in, sp_bezout_in, sp_less_in, sp_times_in]
    walk_at "dm"
    have rest6 : denB T_divisor_paper d_divisor_paper_6 [some (.d (.str (kS k))), some (.d (.int a)), some (.d (.int b)), some (.d (.int (kGcd k a.natAbs b.natAbs))), some (.d (.int (kF k a b))), some (.d (.int (kLess k (kGcd k a.natAbs b.natAbs) (kTimes k a.natAbs (kF k a b))))), some (.d (.int (kG k a b))), none, none, none, none] s
        { nx := fun _ s_1 => Q (.d .none) (List.take s.length s_1), rt := fun v s_1 => fin 0 s.length Q v s_1, bk := fun _ _ => False, ct := fun _ _ => False, ex := finX s.length X } := by
      simp only [T_divisor_paper, d_divisor_paper_6, sp_over_in, sp_check_pair, sp_divisor_in, sp_bezout_in, sp_less_in, sp_times_in]
      walk_at "dm"
      simp only [abs_if]
      have g1 : 1 ≤ kGcd k a.natAbs b.natAbs := by have := kGcd_nn (k := k) hA hB; omega
      refine ⟨⟨oA.1, g1, oA.sh (by decide), og.sh (by decide)⟩, ⟨oB.1, g1, oB.sh (by decide), og.sh (by decide)⟩, ?_⟩
      simp only [d_divisor_paper_7]
      walk_at "dm"
      refine ⟨by decide, .list [.int a, .int b, .int a, .int b], ?_, _, _, rfl, rfl, rfl, ?_⟩
      · rw [op_rpt, if_pos ⟨by decide, by decide, show 2 * 2 ≤ line by decide⟩]
        rfl
      have oG : ok k 602 (kG k a b) := by
        unfold kG
        split
        · exact ok_quo oL (by omega)
        · exact ok_0
      have oP := ok_quo oA g1
      have oQ := ok_quo oB g1
      refine compGo_pure (fun _ => true) (fSg k) (by show 4 ≤ line; decide) trivial ?_ ?_
      · intro t ht
        have ht' : t = .tuple [.int (kQuo k a.natAbs (kGcd k a.natAbs b.natAbs)), .int a] ∨ t = .tuple [.int (kQuo k b.natAbs (kGcd k a.natAbs b.natAbs)), .int b] ∨ t = .tuple [.int (kF k a b), .int a] ∨ t = .tuple [.int (kG k a b), .int b] := by simpa [zipP] using ht
        obtain ⟨u, l, rfl, nu⟩ : ∃ u l, t = .tuple [.int u, .int l] ∧ nk k u := by
          rcases ht' with rfl | rfl | rfl | rfl
          · exact ⟨_, _, rfl, oP.1⟩
          · exact ⟨_, _, rfl, oQ.1⟩
          · exact ⟨_, _, rfl, oF.1⟩
          · exact ⟨_, _, rfl, oG.1⟩
        refine ⟨_, rfl, fun R hR => hR, fun _ R hR => ?_⟩
        simp only [wipeE]
        walk_at "dm"
        rw [sp_with_sign_at]
        exact ⟨nu, hR⟩
      · simp only [d_divisor_paper_8]
        walk_at "dm"
        exact ⟨by decide, show 1 + 4 ≤ line by decide, _, rfl, q⟩
    simp only [T_divisor_paper, sp_over_in, sp_check_pair, sp_divisor_in, sp_bezout_in, sp_less_in, sp_times_in] at rest6
    by_cases zb : b = 0
    · rw [if_neg (fun h => h zb)]
      have e : kG k a b = 0 := by unfold kG; rw [if_neg (fun h => h zb)]
      rw [e] at rest6
      exact rest6
    · rw [if_pos zb]
      simp only [abs_if]
      refine ⟨⟨oL.1, by omega, oL.sh (by decide), oB.sh (by decide)⟩, ?_⟩
      have e : kG k a b = kQuo k (kLess k (kGcd k a.natAbs b.natAbs) (kTimes k a.natAbs (kF k a b))) b.natAbs := by unfold kG; rw [if_pos zb]
      rw [e] at rest6
      exact rest6
  simp only [T_divisor_paper, sp_over_in, sp_check_pair, sp_divisor_in, sp_bezout_in, sp_less_in, sp_times_in] at rest5
  simp only [d_divisor_paper_4]
  walk_at "dm"
  cases k
  · walk_at "dm"
    simp only [abs_if]
    exact ⟨⟨⟨trivial, trivial⟩, oA.sh (by decide), oF.sh (by decide)⟩, ⟨trivial, trivial⟩, rest5⟩
  · walk_at "dm"
    have et : kTimes .b (kF .b a b) a = kTimes .b a.natAbs (kF .b a b) := by rw [kTimes_comm, natAbs_b oa.1]
    rw [et]
    exact ⟨⟨⟨oF.1, oa.1⟩, oF.sh (by decide), oa.sh (by decide)⟩, ⟨og.1, oAF.1⟩, rest5⟩
theorem b_is_divisor_paper : ∀ (es : List EV) (s : ST) (Q : QE) (X : QX), es.length = d_is_divisor_paper.np → sp_is_divisor_paper es s Q X → denF T_is_divisor_paper d_is_divisor_paper es s Q X := by
  rintro es s Q X hl ⟨k, a, b, v, rfl, ⟨⟨na, nb⟩, sa, sb, hv⟩, w⟩
  simp only [T_is_divisor_paper, d_is_divisor_paper, d_is_divisor_paper_0, sp_check_pair, sp_is_number_of, sp_is_count, sp_times_in, sp_add_in]
  walk_at "dm"
  refine ⟨⟨na, nb⟩, ?_⟩
  simp only [d_is_divisor_paper_1]
  walk_at "dm"
  have W : pjB k a b v = false → Q (.d (.bool false)) s := fun h => by rw [h] at w; exact w
  rcases pj_case k a b v with ⟨h1, h2⟩ | ⟨ds, rfl, h1, h2⟩ | ⟨ds, rfl, h1, ⟨d0, hd0, hd1⟩, h2⟩ | ⟨c, p, q, x, y, rfl, ⟨nc, np, nq, nx, ny⟩, h2⟩
  · refine ⟨false, h1, ?_⟩
    rw [if_pos rfl]
    exact W h2
  · refine ⟨true, isi_tt, ?_⟩
    rw [if_neg (by simp)]
    refine ⟨.int ds.length, rfl, ?_⟩
    walk_at "dm"
    rw [if_pos (by omega)]
    exact W h2
  · refine ⟨true, isi_tt, ?_⟩
    rw [if_neg (by simp)]
    refine ⟨.int ds.length, rfl, ?_⟩
    walk_at "dm"
    rw [if_neg (by omega)]
    simp only [d_is_divisor_paper_2]
    walk_at "dm"
    refine compGo_pure (fun d => !isN k d) id (by rw [h1]; decide) trivial ?_ ?_
    · intro t ht
      refine ⟨_, rfl, fun R hR => ?_, fun _ R hR => ?_⟩
      · simp only [wipeE]
        walk_at "dm"
        exact hR
      · simp only [wipeE]
        walk_at "dm"
        exact hR
    walk_at "dm"
    refine ⟨Nat.zero_le _, true, ?_, ?_⟩
    · rw [ne_nil (bad_shp (hv ds rfl h1)), List.map_id]
      cases q : ds.filter fun d => !isN k d with
      | nil =>
        have := List.mem_filter (p := fun d => !isN k d).mpr ⟨hd0, by rw [hd1]; rfl⟩
        rw [q] at this
        exact nomatch this
      | cons _ _ => rfl
    rw [if_pos rfl]
    exact W h2
  rw [h2] at w
  have hm : ∀ d ∈ [PyData.int c, .int p, .int q, .int x, .int y], smp d := hv _ rfl rfl
  have sc : sh c := (hm _ (by simp)).2 c rfl
  have sp : sh p := (hm (.int p) (by simp)).2 p rfl
  have sq : sh q := (hm (.int q) (by simp)).2 q rfl
  have sx : sh x := (hm (.int x) (by simp)).2 x rfl
  have sy : sh y := (hm (.int y) (by simp)).2 y rfl
  unfold pjC at w
  refine ⟨true, isi_tt, ?_⟩
  rw [if_neg (by simp)]
  refine ⟨.int 5, rfl, ?_⟩
  walk_at "dm"
  rw [if_neg (by simp)]
  simp only [d_is_divisor_paper_2]
  walk_at "dm"
  refine compGo_pure (fun _ => false) id (by show 5 ≤ line; decide) trivial ?_ ?_
  · intro t ht
    have ht' : t = .int c ∨ t = .int p ∨ t = .int q ∨ t = .int x ∨ t = .int y := by simpa using ht
    obtain ⟨i, rfl, ni⟩ : ∃ i, t = .int i ∧ nk k i := by
      rcases ht' with rfl | rfl | rfl | rfl | rfl
      · exact ⟨_, rfl, nc⟩
      · exact ⟨_, rfl, np⟩
      · exact ⟨_, rfl, nq⟩
      · exact ⟨_, rfl, nx⟩
      · exact ⟨_, rfl, ny⟩
    refine ⟨_, rfl, fun R hR => ?_, fun h => nomatch h⟩
    simp only [wipeE]
    walk_at "dm"
    cases k
    · exact hR
    · show R (!decide (0 ≤ i)) s
      rw [decide_eq_true (show 0 ≤ i from ni)]
      exact hR
  walk_at "dm"
  refine ⟨Nat.zero_le _, false, cmp_eq_none, ?_⟩
  rw [if_neg Bool.false_ne_true]
  simp only [d_is_divisor_paper_3]
  walk_at "dm"
  refine ⟨_, _, rfl, rfl, ?_⟩
  simp only [d_is_divisor_paper_4]
  walk_at "dm"
  by_cases z0 : 0 ≤ c
  · rw [if_neg (fun h => h z0)]
    refine ⟨⟨⟨nc, np⟩, sc, sp⟩, ?_⟩
    by_cases z1 : kTimes k c p = a
    · rw [if_neg (fun h => h z1)]
      refine ⟨⟨⟨nc, nq⟩, sc, sq⟩, ?_⟩
      by_cases z2 : kTimes k c q = b
      · rw [if_neg (fun h => h z2)]
        simp only [d_is_divisor_paper_5]
        walk_at "dm"
        simp only [z0, z1, z2, true_and] at w
        have nt : ∀ {u v : Int}, nk k u → nk k v → nk k (kTimes k u v) := fun {u v} hu hv => (ok_times (m := u.natAbs + 1) (n := v.natAbs + 1) ⟨hu, Nat.lt_of_lt_of_le (Nat.lt_succ_self _) (Nat.le_of_lt Nat.lt_two_pow_self)⟩ ⟨hv, Nat.lt_of_lt_of_le (Nat.lt_succ_self _) (Nat.le_of_lt Nat.lt_two_pow_self)⟩).1
        exact ⟨⟨⟨na, nx⟩, sa, sx⟩, ⟨⟨nb, ny⟩, sb, sy⟩, ⟨nt na nx, nt nb ny⟩, w⟩
      · rw [if_pos z2]
        simp only [z2, false_and, and_false, decide_false] at w
        exact w
    · rw [if_pos z1]
      simp only [z1, false_and, and_false, decide_false] at w
      exact w
  · rw [if_pos z0]
    simp only [z0, false_and, decide_false] at w
    exact w
end Gen

namespace Gen
open PySem PySem.Spec PyProof.Rows L2 Mini Eud
local macro_rules
  | `(tactic| walk_at "dn") => `(tactic| simp only [denF, denB, denS, den, denL, denO, denI, denC, DE.of, testOf, boolOf, strict1, strict2, ex_eq_some, ex_ss, ex_di, ex_none, ex_call, ex_look2, ex_look1, ex_tru, some_if, some_map, map_some, looks_nil, looks_d, datas_nil, datas_d, ex_some2, tru_none, tru_bool, tru_int, tru_list, cmp_eq_int, cmp_ne_int, cmp_lt, cmp_le, cmp_gt, cmp_ge, cmp_eq_str, cmp_ne_str, op_add, op_sub, op_mul, op_fdv, op_mod, op_pow, op_shl, op_shr, op_and, op_or, op_xor, op_cat, un_neg, is_none, in_none, in_int, in_str, in_list, blt_len, blt_int, blt_abs, blt_max, blt_min, blt_repr, blt_sum, isi_int_int, isi_int_bool, isi_int_str, isi_str_str, isi_str_int, isi_str_bool, isi_bool_bool, isi_bool_int, isi_none_int, isi_none_str, isi_list_list, isi_list_int, isi_list_str, idx_list, idx_tuple, in2, spI1_at, spD_at, spKD_at, spKD_h, spKD_b, isW_int, isC_int, isN_int, isN_h, isN_b, sp_check_number_at, spK0_at, spK0_h, spK0_b, spK1_at, spK1_h, spK1_b, spK2_at, spK2_h, spK2_b, nk, kS_h, kS_b, l2, hours_bits, bits_hours, List.map_cons, List.map_nil, List.cons_append, List.nil_append, List.replicate_succ, List.replicate_zero, Nat.reduceSub, Nat.reduceAdd, List.getElem?_cons_zero, List.getElem?_cons_succ, List.set_cons_zero, List.set_cons_succ, if_true, if_false, Bool.false_eq_true, decide_eq_true_eq, decide_true, decide_false, Bool.not_true, Bool.not_false, Bool.or_true, Bool.true_or, Bool.or_false, Bool.false_or, exists_eq_left', true_and, and_true, eq_self, List.length_cons, List.length_nil, List.take_length, fin_d, fin_t, Bool.not_eq_true', decide_eq_false_iff_not, and_self, Bool.true_eq_false, reduceCtorEq])
local macro_rules
  | `(tactic| walk_at "dm") => `(tactic| simp only [denF, denB, denS, den, denL, denO, denI, denC, DE.of, testOf, boolOf, strict1, strict2, ex_eq_some, ex_ss, ex_di, ex_none, ex_call, ex_look2, ex_look1, ex_tru, some_if, some_map, map_some, looks_nil, looks_d, datas_nil, datas_d, ex_some2, tru_none, tru_bool, tru_int, tru_list, cmp_eq_int, cmp_ne_int, cmp_lt, cmp_le, cmp_gt, cmp_ge, cmp_eq_str, cmp_ne_str, op_add, op_sub, op_mul, op_fdv, op_mod, op_pow, op_shl, op_shr, op_and, op_or, op_xor, op_cat, un_neg, is_none, in_none, in_int, in_str, in_list, blt_len, blt_int, blt_abs, blt_max, blt_min, blt_repr, blt_sum, isi_int_int, isi_int_bool, isi_int_str, isi_str_str, isi_str_int, isi_str_bool, isi_bool_bool, isi_bool_int, isi_none_int, isi_none_str, isi_list_list, isi_list_int, isi_list_str, idx_list, idx_tuple, in2, spI1_at, spD_at, spKD_at, spKD_h, spKD_b, isW_int, isC_int, isN_int, isN_h, isN_b, sp_check_number_at, spK0_at, spK0_h, spK0_b, spK1_at, spK1_h, spK1_b, spK2_at, spK2_h, spK2_b, kS_h, kS_b, l2, hours_bits, bits_hours, List.map_cons, List.map_nil, List.cons_append, List.nil_append, List.replicate_succ, List.replicate_zero, Nat.reduceSub, Nat.reduceAdd, List.getElem?_cons_zero, List.getElem?_cons_succ, List.set_cons_zero, List.set_cons_succ, if_true, if_false, Bool.false_eq_true, decide_eq_true_eq, decide_true, decide_false, Bool.not_true, Bool.not_false, Bool.or_true, Bool.true_or, Bool.or_false, Bool.false_or, exists_eq_left', true_and, and_true, eq_self, List.length_cons, List.length_nil, List.take_length, fin_d, fin_t, Bool.not_eq_true', decide_eq_false_iff_not, and_self, Bool.true_eq_false, reduceCtorEq])
local macro_rules
  | `(tactic| walk_at "dx") => `(tactic| ((try simp only [blt_len_t, isi_tt, at20, at21, ex_eq_some, cmp_eq_none, sp_thing_fits_at]); walk_at "dm"))
def sp__law_is_paper : Mini.Spec := sp_is_divisor_paper
def sp__law_due : Mini.Spec := spK2 (fun k a b => (nk k a ∧ nk k b) ∧ a.natAbs ≤ 24 ∧ b.natAbs ≤ 24) fun k a b => .list [.int (kGcd k a.natAbs b.natAbs), .int (kLcm k a.natAbs b.natAbs)]
def N__law_is_paper : List Str := ["_law_kind_there", "_law_one", "_law_other", "_law_value_there", "_law_count", "_law_low", "_law_high", "_law_first", "_law_second", "_law_item"]
@[simp] def d__law_is_paper : Def := ⟨4, 10, 0,
  (.cons (.ite (.bop .Or (.cons (.un .Not (.isi (.var 3) "tuple")) (.cons (.cmp .NotEq (.blt .len (.cons (.var 3) .nil)) (.cst (.int 5))) .nil))) (.cons (.ret (.cst (.bool false))) .nil) .nil) (.cons (.ite (.cmp .NotEq (.comp [("_law_item", 9)] (.var 9) (.dat (.var 3)) (.some (.bop .Or (.cons (.isi (.var 9) "bool") (.cons (.un .Not (.isi (.var 9) "int")) (.cons (.bop .And (.cons (.cmp .Eq (.var 0) (.cst (.str "bits"))) (.cons (.cmp .Lt (.var 9) (.cst (.int 0))) .nil))) .nil))))) (.var 9)) (.lst false .nil)) (.cons (.ret (.cst (.bool false))) .nil) .nil) (.cons (.asg (.tup (.cons (.var 4) (.cons (.var 5) (.cons (.var 6) (.cons (.var 7) (.cons (.var 8) .nil)))))) (.var 3)) (.cons (.ite (.bop .Or (.cons (.cmp .Lt (.var 4) (.cst (.int 0))) (.cons (.cmp .NotEq (.call 0 (.cons (.var 0) (.cons (.var 4) (.cons (.var 5) .nil)))) (.var 1)) (.cons (.cmp .NotEq (.call 0 (.cons (.var 0) (.cons (.var 4) (.cons (.var 6) .nil)))) (.var 2)) .nil)))) (.cons (.ret (.cst (.bool false))) .nil) .nil) (.cons (.ret (.cmp .Eq (.call 1 (.cons (.var 0) (.cons (.call 0 (.cons (.var 0) (.cons (.var 1) (.cons (.var 7) .nil)))) (.cons (.call 0 (.cons (.var 0) (.cons (.var 2) (.cons (.var 8) .nil)))) .nil)))) (.var 4))) .nil)))))⟩
@[simp] def T__law_is_paper : Tab := ⟨[("_law_times", 3, sp__law_times), ("_law_add", 3, sp__law_add)], [], ["isinstance", "tuple", "len", "bool", "int"]⟩
def N__law_due : List Str := ["_law_kind_there", "_law_one", "_law_other", "_law_low", "_law_high", "_law_found", "_law_most", "_law_item"]
def d__law_due_5 : B := .cons
  (.ret (.lst false (.cons (.blt .max (.cons (.var 5) .nil)) (.cons (.var 6) .nil))))
  .nil
def d__law_due_4 : B := .cons
  (.for_ (.var 7) (.rng2 (.blt .max (.cons (.var 3) (.cons (.var 4) .nil))) (.bin .Add (.var 6) (.cst (.int 1)))) (.cons (.ite (.bop .And (.cons (.call 0 (.cons (.var 0) (.cons (.var 7) (.cons (.var 3) .nil)))) (.cons (.call 0 (.cons (.var 0) (.cons (.var 7) (.cons (.var 4) .nil)))) .nil))) (.cons (.ret (.lst false (.cons (.blt .max (.cons (.var 5) .nil)) (.cons (.var 7) .nil)))) .nil) .nil) .nil))
  d__law_due_5
def d__law_due_3 : B := .cons
  (.asg (.var 6) (.ite (.cmp .Eq (.var 0) (.cst (.str "hours"))) (.bin .Mult (.var 3) (.var 4)) (.call 1 (.cons (.cst (.str "bits")) (.cons (.var 3) (.cons (.var 4) .nil))))))
  d__law_due_4
def d__law_due_2 : B := .cons
  (.asg (.var 5) (.comp [("_law_item", 7)] (.var 7) (.rng2 (.cst (.int 1)) (.bin .Add (.bin .Add (.var 3) (.var 4)) (.cst (.int 1)))) (.some (.bop .And (.cons (.call 0 (.cons (.var 0) (.cons (.var 3) (.cons (.var 7) .nil)))) (.cons (.call 0 (.cons (.var 0) (.cons (.var 4) (.cons (.var 7) .nil)))) .nil)))) (.var 7)))
  d__law_due_3
def d__law_due_1 : B := .cons
  (.ite (.bop .Or (.cons (.cmp .Eq (.var 3) (.cst (.int 0))) (.cons (.cmp .Eq (.var 4) (.cst (.int 0))) .nil))) (.cons (.ret (.lst false (.cons (.bin .Add (.var 3) (.var 4)) (.cons (.cst (.int 0)) .nil)))) .nil) .nil)
  d__law_due_2
def d__law_due_0 : B := .cons
  (.par2 [3, 4] (.cons (.blt .abs (.cons (.var 1) .nil)) (.cons (.blt .abs (.cons (.var 2) .nil)) .nil)))
  d__law_due_1
@[simp] def d__law_due : Def := ⟨3, 8, 0,
  d__law_due_0⟩
@[simp] def T__law_due : Tab := ⟨[("_law_is_multiple", 3, sp__law_is_multiple), ("_law_times", 3, sp__law_times)], [], ["abs", "range", "max"]⟩
theorem isi_none_bool : isiF .none "bool" = some false := (by decide : kitB "NoneType" "bool" = some false)
theorem isi_tup_bool {xs : List PyData} : isiF (.tuple xs) "bool" = some false := (by decide : kitB "tuple" "bool" = some false)
theorem isi_list_bool {xs : List PyData} : isiF (.list xs) "bool" = some false := (by decide : kitB "list" "bool" = some false)
theorem isi_dict_bool {xs : List (PyData × PyData)} : isiF (.dict xs) "bool" = some false := (by decide : kitB "dict" "bool" = some false)
local macro_rules
  | `(tactic| walk_at "wk") => `(tactic| repeat (first | simp only [isi_none_bool, isi_tup_bool, isi_list_bool, isi_dict_bool, isi_tup_int, isi_dict_int, isi_tt, blt_len_t, ex_eq_some] | walk_at "dm"))
theorem b__law_is_paper : ∀ (es : List EV) (s : ST) (Q : QE) (X : QX), es.length = d__law_is_paper.np → sp__law_is_paper es s Q X → denF T__law_is_paper d__law_is_paper es s Q X := by
  rintro es s Q X hl ⟨k, a, b, v, rfl, ⟨⟨na, nb⟩, sa, sb, hv⟩, w⟩
  simp only [T__law_is_paper, d__law_is_paper, sp__law_times, sp_times_in, sp__law_add, sp_add_in]
  walk_at "dm"
  have W : pjB k a b v = false → Q (.d (.bool false)) s := fun h => by rw [h] at w; exact w
  rcases pj_case k a b v with ⟨h1, h2⟩ | ⟨ds, rfl, h1, h2⟩ | ⟨ds, rfl, h1, ⟨d0, hd0, hd1⟩, h2⟩ | ⟨c, p, q, x, y, rfl, ⟨nc, np, nq, nx, ny⟩, h2⟩
  · refine ⟨false, h1, ?_⟩
    rw [if_pos rfl]
    exact W h2
  · refine ⟨true, isi_tt, ?_⟩
    rw [if_neg (by simp)]
    refine ⟨.int ds.length, rfl, ?_⟩
    walk_at "dm"
    rw [if_pos (by omega)]
    exact W h2
  · refine ⟨true, isi_tt, ?_⟩
    rw [if_neg (by simp)]
    refine ⟨.int ds.length, rfl, ?_⟩
    walk_at "dm"
    rw [if_neg (by omega)]
    refine compGo_pure (fun d => !isN k d) id (by rw [h1]; decide) trivial ?_ ?_
    · intro t ht
      refine ⟨_, rfl, fun R hR => ?_, fun _ R hR => ?_⟩
      · simp only [wipeE]
        cases t with
        | int i =>
          cases k
          · walk_at "wk"
            exact hR
          · walk_at "wk"
            have e : decide (i < 0) = !isN .b (.int i) := by
              show _ = !decide (0 ≤ i)
              rw [Bool.eq_iff_iff]; simp
            rw [e]
            exact hR
        | _ =>
          walk_at "wk"
          exact hR
      · simp only [wipeE]
        walk_at "dm"
        exact hR
    walk_at "dm"
    refine ⟨Nat.zero_le _, true, ?_, ?_⟩
    · rw [ne_nil (bad_shp (hv ds rfl h1)), List.map_id]
      cases q : ds.filter fun d => !isN k d with
      | nil =>
        have := List.mem_filter (p := fun d => !isN k d).mpr ⟨hd0, by rw [hd1]; rfl⟩
        rw [q] at this
        exact nomatch this
      | cons _ _ => rfl
    rw [if_pos rfl]
    exact W h2
  refine ⟨true, isi_tt, ?_⟩
  rw [if_neg (by simp)]
  refine ⟨.int 5, rfl, ?_⟩
  walk_at "dm"
  rw [if_neg (by simp)]
  rw [h2] at w
  have hm : ∀ d ∈ [PyData.int c, .int p, .int q, .int x, .int y], smp d := hv _ rfl rfl
  have sc : sh c := (hm _ (by simp)).2 c rfl
  have sp : sh p := (hm (.int p) (by simp)).2 p rfl
  have sq : sh q := (hm (.int q) (by simp)).2 q rfl
  have sx : sh x := (hm (.int x) (by simp)).2 x rfl
  have sy : sh y := (hm (.int y) (by simp)).2 y rfl
  unfold pjC at w
  refine compGo_pure (fun _ => false) id (by show 5 ≤ line; decide) trivial ?_ ?_
  · intro t ht
    have ht' : t = .int c ∨ t = .int p ∨ t = .int q ∨ t = .int x ∨ t = .int y := by simpa using ht
    obtain ⟨i, rfl, ni⟩ : ∃ i, t = .int i ∧ nk k i := by
      rcases ht' with rfl | rfl | rfl | rfl | rfl
      · exact ⟨_, rfl, nc⟩
      · exact ⟨_, rfl, np⟩
      · exact ⟨_, rfl, nq⟩
      · exact ⟨_, rfl, nx⟩
      · exact ⟨_, rfl, ny⟩
    refine ⟨_, rfl, fun R hR => ?_, fun h => nomatch h⟩
    simp only [wipeE]
    cases k
    · walk_at "wk"
      exact hR
    · walk_at "wk"
      rw [decide_eq_false (show ¬ i < 0 by have : (0 : Int) ≤ i := ni; omega)]
      exact hR
  walk_at "dm"
  refine ⟨Nat.zero_le _, false, cmp_eq_none, ?_⟩
  rw [if_neg Bool.false_ne_true]
  refine ⟨_, _, rfl, rfl, ?_⟩
  walk_at "dx"
  by_cases z0 : 0 ≤ c
  · rw [if_neg (by omega)]
    refine ⟨⟨⟨nc, np⟩, sc, sp⟩, ?_⟩
    by_cases z1 : kTimes k c p = a
    · rw [if_neg (fun h => h z1)]
      refine ⟨⟨⟨nc, nq⟩, sc, sq⟩, ?_⟩
      by_cases z2 : kTimes k c q = b
      · rw [if_neg (fun h => h z2)]
        simp only [z0, z1, z2, true_and] at w
        have nt : ∀ {u v : Int}, nk k u → nk k v → nk k (kTimes k u v) := fun {u v} hu hv => (ok_times (m := u.natAbs + 1) (n := v.natAbs + 1) ⟨hu, Nat.lt_of_lt_of_le (Nat.lt_succ_self _) (Nat.le_of_lt Nat.lt_two_pow_self)⟩ ⟨hv, Nat.lt_of_lt_of_le (Nat.lt_succ_self _) (Nat.le_of_lt Nat.lt_two_pow_self)⟩).1
        exact ⟨⟨⟨na, nx⟩, sa, sx⟩, ⟨⟨nb, ny⟩, sb, sy⟩, ⟨nt na nx, nt nb ny⟩, w⟩
      · rw [if_pos z2]
        simp only [z2, false_and, and_false, decide_false] at w
        exact w
    · rw [if_pos z1]
      simp only [z1, false_and, and_false, decide_false] at w
      exact w
  · rw [if_pos (by omega)]
    simp only [z0, false_and, decide_false] at w
    exact w
set_option maxHeartbeats 4000000 in
theorem b__law_due : ∀ (es : List EV) (s : ST) (Q : QE) (X : QX), es.length = d__law_due.np → sp__law_due es s Q X → denF T__law_due d__law_due es s Q X := by
  rintro es s Q X hl ⟨k, a, b, rfl, ⟨⟨na, nb⟩, sa, sb⟩, q⟩
  replace q : Q (.d (.list [.int (kGcd k a.natAbs b.natAbs), .int (kLcm k a.natAbs b.natAbs)])) s := q
  simp only [T__law_due, d__law_due, d__law_due_0, sp__law_times, sp_times_in, sp__law_is_multiple, sp_is_multiple_in]
  walk_at "dm"
  simp only [abs_if]
  refine ⟨_, rfl, ?_⟩
  have hA0 : (0 : Int) ≤ a.natAbs := by omega
  have hB0 : (0 : Int) ≤ b.natAbs := by omega
  have hA1 : (a.natAbs : Int) ≤ 24 := by omega
  have hB1 : (b.natAbs : Int) ≤ 24 := by omega
  revert hA0 hB0 hA1 hB1 q
  generalize (a.natAbs : Int) = A
  generalize (b.natAbs : Int) = B
  intro q hA0 hB0 hA1 hB1
  have hc := (gl k A B 0 hA0 hB0 (by omega)).2.2.2.2.2.2.2.2
  simp only [d__law_due_1]
  walk_at "dm"
  by_cases zA : A = 0
  · rw [if_pos zA]
    subst zA
    rw [hc, kGcd_zero (nk_of_nn hB0), kLcm_zero (.inl rfl)] at q
    rw [Int.zero_add]
    exact q
  rw [if_neg zA]
  by_cases zB : B = 0
  · rw [if_pos zB]
    subst zB
    rw [kGcd_zero (nk_of_nn hA0), kLcm_zero (.inr rfl)] at q
    rw [Int.add_zero]
    exact q
  rw [if_neg zB]
  have hA : 0 < A := by omega
  have hB : 0 < B := by omega
  simp only [d__law_due_2]
  walk_at "dm"
  have nA := nk_of_nn (k := k) hA0
  have nB := nk_of_nn (k := k) hB0
  have sA : sh A := by unfold sh; omega
  have sB : sh B := by unfold sh; omega
  refine ⟨1, A + B + 1, rfl, rfl, ⟨by omega, by omega, by omega, by omega⟩, ?_⟩
  refine compGo_pure (fun d => match d with | .int x => decide (kRest k A x = 0) && decide (kRest k B x = 0) | _ => false) id (by simp only [rngP, List.length_map, List.length_range]; simp only [line]; omega) trivial ?_ ?_
  · intro t ht
    obtain ⟨i, hi⟩ := List.mem_iff_getElem?.mp ht
    obtain ⟨rfl, hi2⟩ := rngP_get hi
    refine ⟨_, rfl, fun R hR => ?_, fun _ R hR => ?_⟩
    · simp only [wipeE]
      walk_at "dm"
      refine ⟨⟨nA, by omega, sA, by unfold sh; omega⟩, ?_⟩
      by_cases y1 : kRest k A (1 + (i : Int)) = 0
      · rw [if_pos y1]
        refine ⟨⟨nB, by omega, sB, by unfold sh; omega⟩, ?_⟩
        simp only [y1, decide_true, Bool.true_and] at hR
        exact hR
      · rw [if_neg y1]
        simp only [y1, decide_false, Bool.false_and] at hR
        exact hR
    · simp only [wipeE]
      walk_at "dm"
      exact hR
  obtain ⟨l, el, hl2⟩ : ∃ l : List Int, ((rngP 1 (A + B + 1 - 1).toNat).filter (fun d => match d with | .int x => decide (kRest k A x = 0) && decide (kRest k B x = 0) | _ => false)).map id = l.map .int ∧ ∀ x, x ∈ l ↔ (1 ≤ x ∧ x ≤ A + B) ∧ kRest k A x = 0 ∧ kRest k B x = 0 := by
    refine ⟨((List.range (A + B + 1 - 1).toNat).map fun i : Nat => 1 + (i : Int)).filter fun x => decide (kRest k A x = 0) && decide (kRest k B x = 0), ?_, fun x => ?_⟩
    · rw [List.map_id, List.filter_map, List.map_map, rngP, List.filter_map]
      rfl
    · rw [List.mem_filter, List.mem_map]
      simp only [List.mem_range, Bool.and_eq_true, decide_eq_true_eq]
      constructor
      · rintro ⟨⟨i, hi, rfl⟩, h1, h2⟩
        exact ⟨⟨by omega, by omega⟩, h1, h2⟩
      · rintro ⟨⟨h1, h2⟩, h3, h4⟩
        exact ⟨⟨(x - 1).toNat, by omega, by omega⟩, h3, h4⟩
  obtain ⟨hmem, hmax⟩ := max_found hA hB l hl2
  rw [el]
  have lne : 0 < l.length := List.length_pos_of_mem hmem
  have emax : bltF .max [.list (l.map PyData.int)] = some (.int (kGcd k A B)) := by
    show ((intsF (l.map PyData.int)).bind fun l => if 0 < l.length then some (PyData.int (maxL l)) else none) = _
    rw [intsF_map]
    show (if 0 < l.length then some (PyData.int (maxL l)) else none) = _
    rw [if_pos lne, hmax]
  obtain ⟨sp1, sp2⟩ := lcm_span (k := k) hA hB
  simp only [d__law_due_3]
  walk_at "dm"
  have rest4 : denB T__law_due d__law_due_4 [some (.d (.str (kS k))), some (.d (.int a)), some (.d (.int b)), some (.d (.int A)), some (.d (.int B)), some (.d (.list (l.map .int))), some (.d (.int (kTimes k A B))), none] s
      { nx := fun _ s_1 => Q (.d .none) (List.take s.length s_1), rt := fun v s_1 => fin 0 s.length Q v s_1, bk := fun _ _ => False, ct := fun _ _ => False, ex := finX s.length X } := by
    simp only [T__law_due, d__law_due_4, sp__law_times, sp_times_in, sp__law_is_multiple, sp_is_multiple_in]
    walk_at "dm"
    have tk : ok k 10 (kTimes k A B) := ok_times (m := 5) (n := 5) ⟨nA, by omega⟩ ⟨nB, by omega⟩
    have tn := kTimes_nn (k := k) hA0 hB0
    have tb : kTimes k A B < 1024 := by have := tk.2; omega
    have em : (if B > A then B else A) = max A B := by split <;> omega
    rw [em]
    refine ⟨max A B, kTimes k A B + 1, rfl, rfl, ⟨by omega, by omega, by omega, by omega⟩, ?_⟩
    refine forGo_ind (fun i env st => st = s ∧ (∃ q7 : Option EV, env = [some (.d (.str (kS k))), some (.d (.int a)), some (.d (.int b)), some (.d (.int A)), some (.d (.int B)), some (.d (.list (l.map .int))), some (.d (.int (kTimes k A B))), q7]) ∧ ∀ j : Nat, j < i → ¬(kRest k (max A B + j) A = 0 ∧ kRest k (max A B + j) B = 0)) _ ?_ ?_ ⟨rfl, ⟨_, rfl⟩, fun j hj => absurd hj (Nat.not_lt_zero j)⟩
    · rintro i t ht env st ⟨rfl, ⟨q7, rfl⟩, hno⟩ k' e1 e2 e3 hn hcc
      obtain ⟨rfl, hi⟩ := rngP_get ht
      refine ⟨_, rfl, ?_⟩
      walk_at "dm"
      have sm : sh (max A B + (i : Int)) := by unfold sh; omega
      have nm : nk k (max A B + (i : Int)) := nk_of_nn (by omega)
      refine ⟨⟨nm, hA0, sm, sA⟩, ?_⟩
      by_cases y1 : kRest k (max A B + (i : Int)) A = 0
      · rw [if_pos y1]
        refine ⟨⟨nm, hB0, sm, sB⟩, ?_⟩
        by_cases y2 : kRest k (max A B + (i : Int)) B = 0
        · rw [if_pos y2]
          have em2 := first_lcm (k := k) hA hB (m := max A B + (i : Int)) (by omega) y1 y2 fun y hy1 hy2 => by
            have := hno (y - max A B).toNat (by omega)
            rw [show max A B + (((y - max A B).toNat : Nat) : Int) = y by omega] at this
            exact this
          refine ⟨_, emax, ?_⟩
          rw [e1, em2]
          simp only [fin_d, List.take_length]
          exact q
        · rw [if_neg y2]
          refine hn _ _ trivial ⟨rfl, ⟨_, rfl⟩, fun j hj => ?_⟩
          by_cases ej : j = i
          · subst ej; exact fun z => y2 z.2
          · exact hno j (by omega)
      · rw [if_neg y1]
        refine hn _ _ trivial ⟨rfl, ⟨_, rfl⟩, fun j hj => ?_⟩
        by_cases ej : j = i
        · subst ej; exact fun z => y1 z.1
        · exact hno j (by omega)
    · rintro env st ⟨rfl, ⟨q7, rfl⟩, hno⟩
      obtain ⟨_, _, _, h4, h5, _⟩ := gl k A B 0 hA0 hB0 (by omega)
      have := hno (kLcm k A B - max A B).toNat (by simp only [rngP, List.length_map, List.length_range]; omega)
      rw [show max A B + (((kLcm k A B - max A B).toNat : Nat) : Int) = kLcm k A B by omega] at this
      exact absurd ⟨h4, h5⟩ this
  simp only [T__law_due, sp__law_times, sp_times_in, sp__law_is_multiple, sp_is_multiple_in] at rest4
  cases k with
  | h =>
    rw [if_pos (by decide)]
    exact ⟨mul_fit sA sB, rest4⟩
  | b =>
    rw [if_neg (by decide)]
    exact ⟨⟨⟨nA, nB⟩, sA, sB⟩, rest4⟩
end Gen

namespace Gen
open PySem PySem.Spec PyProof.Rows L2 Mini Eud
local macro_rules
  | `(tactic| walk_at "dn") => `(tactic| simp only [denF, denB, denS, den, denL, denO, denI, denC, DE.of, testOf, boolOf, strict1, strict2, ex_eq_some, ex_ss, ex_di, ex_none, ex_call, ex_look2, ex_look1, ex_tru, some_if, some_map, map_some, looks_nil, looks_d, datas_nil, datas_d, ex_some2, tru_none, tru_bool, tru_int, tru_list, cmp_eq_int, cmp_ne_int, cmp_lt, cmp_le, cmp_gt, cmp_ge, cmp_eq_str, cmp_ne_str, op_add, op_sub, op_mul, op_fdv, op_mod, op_pow, op_shl, op_shr, op_and, op_or, op_xor, op_cat, un_neg, is_none, in_none, in_int, in_str, in_list, blt_len, blt_int, blt_abs, blt_max, blt_min, blt_repr, blt_sum, isi_int_int, isi_int_bool, isi_int_str, isi_str_str, isi_str_int, isi_str_bool, isi_bool_bool, isi_bool_int, isi_none_int, isi_none_str, isi_list_list, isi_list_int, isi_list_str, idx_list, idx_tuple, in2, spI1_at, spD_at, spKD_at, spKD_h, spKD_b, isW_int, isC_int, isN_int, isN_h, isN_b, sp_check_number_at, spK0_at, spK0_h, spK0_b, spK1_at, spK1_h, spK1_b, spK2_at, spK2_h, spK2_b, nk, kS_h, kS_b, l2, hours_bits, bits_hours, List.map_cons, List.map_nil, List.cons_append, List.nil_append, List.replicate_succ, List.replicate_zero, Nat.reduceSub, Nat.reduceAdd, List.getElem?_cons_zero, List.getElem?_cons_succ, List.set_cons_zero, List.set_cons_succ, if_true, if_false, Bool.false_eq_true, decide_eq_true_eq, decide_true, decide_false, Bool.not_true, Bool.not_false, Bool.or_true, Bool.true_or, Bool.or_false, Bool.false_or, exists_eq_left', true_and, and_true, eq_self, List.length_cons, List.length_nil, List.take_length, fin_d, fin_t, Bool.not_eq_true', decide_eq_false_iff_not, and_self, Bool.true_eq_false, reduceCtorEq])
local macro_rules
  | `(tactic| walk_at "dm") => `(tactic| simp only [denF, denB, denS, den, denL, denO, denI, denC, DE.of, testOf, boolOf, strict1, strict2, ex_eq_some, ex_ss, ex_di, ex_none, ex_call, ex_look2, ex_look1, ex_tru, some_if, some_map, map_some, looks_nil, looks_d, datas_nil, datas_d, ex_some2, tru_none, tru_bool, tru_int, tru_list, cmp_eq_int, cmp_ne_int, cmp_lt, cmp_le, cmp_gt, cmp_ge, cmp_eq_str, cmp_ne_str, op_add, op_sub, op_mul, op_fdv, op_mod, op_pow, op_shl, op_shr, op_and, op_or, op_xor, op_cat, un_neg, is_none, in_none, in_int, in_str, in_list, blt_len, blt_int, blt_abs, blt_max, blt_min, blt_repr, blt_sum, isi_int_int, isi_int_bool, isi_int_str, isi_str_str, isi_str_int, isi_str_bool, isi_bool_bool, isi_bool_int, isi_none_int, isi_none_str, isi_list_list, isi_list_int, isi_list_str, idx_list, idx_tuple, in2, spI1_at, spD_at, spKD_at, spKD_h, spKD_b, isW_int, isC_int, isN_int, isN_h, isN_b, sp_check_number_at, spK0_at, spK0_h, spK0_b, spK1_at, spK1_h, spK1_b, spK2_at, spK2_h, spK2_b, kS_h, kS_b, l2, hours_bits, bits_hours, List.map_cons, List.map_nil, List.cons_append, List.nil_append, List.replicate_succ, List.replicate_zero, Nat.reduceSub, Nat.reduceAdd, List.getElem?_cons_zero, List.getElem?_cons_succ, List.set_cons_zero, List.set_cons_succ, if_true, if_false, Bool.false_eq_true, decide_eq_true_eq, decide_true, decide_false, Bool.not_true, Bool.not_false, Bool.or_true, Bool.true_or, Bool.or_false, Bool.false_or, exists_eq_left', true_and, and_true, eq_self, List.length_cons, List.length_nil, List.take_length, fin_d, fin_t, Bool.not_eq_true', decide_eq_false_iff_not, and_self, Bool.true_eq_false, reduceCtorEq])
local macro_rules
  | `(tactic| walk_at "dx") => `(tactic| ((try simp only [blt_len_t, isi_tt, at20, at21, ex_eq_some, cmp_eq_none, sp_thing_fits_at]); walk_at "dm"))
def sp__law_right : Mini.Spec := fun es st Q _ => ∃ n k a s c, es = [.cell n, .d (.str (kS k))] ∧ st[n]? = some (gst a s c) ∧ ((0 ≤ s ∧ s < 2 ^ 31) ∧ 0 ≤ c ∧ c < 2 ^ 39) ∧ ∀ a' c' : Int, c ≤ c' → c' ≤ c + 2000 → Q (.d (.bool true)) (st.set n (gst a' s c'))
theorem isp_of {k : Kd} {a b : Int} {v : PyData} {st : ST} {Q : QE} {X : QX} (h : (nk k a ∧ nk k b) ∧ sh a ∧ sh b ∧ vOk v) (q : Q (.d (.bool (pjB k a b v))) st) : sp_is_divisor_paper [.d (.str (kS k)), .d (.int a), .d (.int b), .d v] st Q X := ⟨k, a, b, v, rfl, h, q⟩
theorem lip_of {k : Kd} {a b : Int} {v : PyData} {st : ST} {Q : QE} {X : QX} (h : (nk k a ∧ nk k b) ∧ sh a ∧ sh b ∧ vOk v) (q : Q (.d (.bool (pjB k a b v))) st) : sp__law_is_paper [.d (.str (kS k)), .d (.int a), .d (.int b), .d v] st Q X := ⟨k, a, b, v, rfl, h, q⟩
theorem papT_spec {k : Kd} {a b : Int} (ha : ok k 300 a) (hb : ok k 300 b) : ∃ c p q x y, papT k a b = .tuple [.int c, .int p, .int q, .int x, .int y] ∧ (ok k 602 c ∧ ok k 602 p ∧ ok k 602 q ∧ ok k 602 x ∧ ok k 602 y) ∧ pjC k a b c p q x y ∧ c = kGcd k a.natAbs b.natAbs := by
  have hA : (0 : Int) ≤ a.natAbs := by omega
  have hB : (0 : Int) ≤ b.natAbs := by omega
  by_cases z : kGcd k a.natAbs b.natAbs = 0
  · obtain ⟨z1, z2⟩ := (kGcd_eq_zero hA hB).mp z
    have ea : a = 0 := by omega
    have eb : b = 0 := by omega
    subst ea; subst eb
    refine ⟨0, 0, 0, 0, 0, if_pos z, ⟨ok_0, ok_0, ok_0, ok_0, ok_0⟩, ?_, z.symm⟩
    cases k <;> decide +kernel
  · have P := pap_ok ha hb z
    refine ⟨_, _, _, _, _, if_neg z, ⟨?_, P.np.mono (by decide), P.nq.mono (by decide), P.nx.mono (by decide), P.ny⟩, ⟨kGcd_nn hA hB, P.ep, P.eq, P.ec⟩, rfl⟩
    exact (kGcd_le (k := k) (m := 300) hA hB (by rw [Int.natAbs_natCast]; exact ha.2) (by rw [Int.natAbs_natCast]; exact hb.2)).mono (by decide)
theorem smp_int {i : Int} (h : sh i) : smp (.int i) := ⟨(Rp_int h).mono (by decide) (by decide), fun j e => by cases e; exact h⟩
theorem smp_none : smp .none := ⟨Rp_none.mono (by decide) (by decide), fun j e => (nomatch e)⟩
theorem smp_true : smp (.bool true) := ⟨Rp_bool.mono (by decide) (by decide), fun j e => (nomatch e)⟩
theorem smp_one : smp (.str "1") := ⟨⟨rfl, by decide +kernel, by decide +kernel, by decide +kernel⟩, fun j e => (nomatch e)⟩
theorem smp_l1 : smp (.list [.int 1]) := ⟨⟨by decide +kernel, by decide +kernel, by decide +kernel, by decide +kernel⟩, fun j e => (nomatch e)⟩
/-- a value that is tried -/
def okRow (v : PyData) : Prop := vOk v ∧ (v = .dict [] ∨ Rp 100000 4 v)
theorem okRow_tup {ds : List PyData} (h : ∀ d ∈ ds, smp d) (hl : ds.length ≤ 10) : okRow (.tuple ds) := by
  refine ⟨fun es e _ => by cases e; exact h, .inr ((Rp_tup (m := 2000) (D := 2) fun x hx => (h x hx).1).mono ?_ (by decide))⟩
  have := Nat.mul_le_mul_left (2000 + 2) hl
  omega
theorem okRow_list {ds : List PyData} (h : ∀ d ∈ ds, smp d) (hl : ds.length ≤ 10) : okRow (.list ds) := by
  refine ⟨fun es e _ => (nomatch e), .inr ((Rp_list (m := 2000) (D := 2) fun x hx => (h x hx).1).mono ?_ (by decide))⟩
  have := Nat.mul_le_mul_left (2000 + 2) hl
  omega
theorem okRow_none : okRow .none := ⟨fun es e _ => (nomatch e), .inr (Rp_none.mono (by decide) (by decide))⟩
theorem okRow_int {i : Int} (h : sh i) : okRow (.int i) := ⟨fun es e _ => (nomatch e), .inr ((Rp_int h).mono (by decide) (by decide))⟩
theorem okRow_dct : okRow (.dict []) := ⟨fun es e _ => (nomatch e), .inl rfl⟩
theorem at50 {a b c d e : PyData} : atI [a, b, c, d, e] 0 = some a := rfl
theorem at51 {a b c d e : PyData} : atI [a, b, c, d, e] 1 = some b := rfl
theorem at52 {a b c d e : PyData} : atI [a, b, c, d, e] 2 = some c := rfl
theorem at53 {a b c d e : PyData} : atI [a, b, c, d, e] 3 = some d := rfl
theorem at54 {a b c d e : PyData} : atI [a, b, c, d, e] 4 = some e := rfl
theorem at2x {a b : PyData} : atI [a, b] 0 = some a := rfl
theorem op_tup {a b : List PyData} : opF .Add (.tuple a) (.tuple b) = if a.length + b.length ≤ line then some (.tuple (a ++ b)) else none := rfl
theorem is_tt : isF (.bool true) (.bool true) = some true := rfl
local macro_rules
  | `(tactic| walk_at "wk") => `(tactic| repeat (first | simp only [at50, at51, at52, at53, at54, at2x, is_tt, isi_tt, blt_len_t, ex_eq_some] | walk_at "dm"))
def N__law_right : List Str := ["_law_generator_here", "_law_kind_there", "_law_one", "_law_other", "_law_due_here", "_law_told", "_law_rows", "_law_spot", "_law_odd", "_law_value_there", "_law_given", "_law_judged"]
def d__law_right_x0_2 : B := .cons
  (.ite (.bop .And (.cons (.var 11) (.cons (.cmp .NotEq (.idx (.var 9) (.cst (.int 0))) (.idx (.var 4) (.cst (.int 0)))) .nil))) (.cons (.ret (.cst (.bool false))) .nil) .nil)
  .nil
def d__law_right_x0_1 : B := .cons
  (.ite (.bop .Or (.cons (.cmp .NotEq (.blt .repr (.cons (.call 8 (.cons (.var 1) (.cons (.var 2) (.cons (.var 3) (.cons (.var 9) .nil))))) .nil)) (.blt .repr (.cons (.var 11) .nil))) (.cons (.cmp .NotEq (.blt .reprd (.cons (.var 9) .nil)) (.var 10)) .nil))) (.cons (.ret (.cst (.bool false))) .nil) .nil)
  d__law_right_x0_2
def d__law_right_x0_0 : B := .cons
  (.par [10, 11] (.cons (.blt .reprd (.cons (.var 9) .nil)) (.cons (.call 5 (.cons (.var 1) (.cons (.var 2) (.cons (.var 3) (.cons (.var 9) .nil))))) .nil)))
  d__law_right_x0_1
def d__law_right_10 : B := .cons
  (.ret (.cst (.bool true)))
  .nil
def d__law_right_9 : B := .cons
  (.for_ (.var 9) (.dat (.var 6)) d__law_right_x0_0)
  d__law_right_10
def d__law_right_8 : B := .cons
  (.app (.var 6) (.tup (.cons (.cst (.int 1)) (.cons (.var 2) (.cons (.var 3) (.cons (.idx (.var 5) (.cst (.int 3))) (.cons (.idx (.var 5) (.cst (.int 4))) .nil)))))))
  d__law_right_9
def d__law_right_7 : B := .cons
  (.ite (.cmp .Gt (.idx (.var 4) (.cst (.int 0))) (.cst (.int 0))) (.cons (.app (.var 6) (.tup (.cons (.idx (.var 5) (.cst (.int 0))) (.cons (.idx (.var 5) (.cst (.int 1))) (.cons (.idx (.var 5) (.cst (.int 2))) (.cons (.call 6 (.cons (.var 1) (.cons (.idx (.var 5) (.cst (.int 3))) (.cons (.idx (.var 5) (.cst (.int 2))) .nil)))) (.cons (.call 7 (.cons (.var 1) (.cons (.idx (.var 5) (.cst (.int 4))) (.cons (.idx (.var 5) (.cst (.int 1))) .nil)))) .nil))))))) .nil) .nil)
  d__law_right_8
def d__law_right_6 : B := .cons
  (.for_ (.var 7) (.rng1 (.cst (.int 5))) (.cons (.for_ (.var 8) (.dat (.lst false (.cons (.bin .Add (.idx (.var 5) (.var 7)) (.cst (.int 1))) (.cons (.blt .abs (.cons (.bin .Sub (.idx (.var 5) (.var 7)) (.cst (.int 1))) .nil)) (.cons (.cst (.int 0)) (.cons (.cst (.int 1)) (.cons (.cst .none) (.cons (.cst (.bool true)) (.cons (.cst (.str "1")) (.cons (.lst false (.cons (.cst (.int 1)) .nil)) (.cons (.bin .Sub (.cst (.int 0)) (.idx (.var 5) (.var 7))) (.cons (.un .USub (.cst (.int 1))) .nil)))))))))))) (.cons (.app (.var 6) (.bin .Add (.bin .Add (.slc (.var 5) .none (.some (.var 7))) (.tup (.cons (.var 8) .nil))) (.slc (.var 5) (.some (.bin .Add (.var 7) (.cst (.int 1)))) .none))) .nil)) .nil))
  d__law_right_7
def d__law_right_5 : B := .cons
  (.asg (.var 6) (.lst true (.cons (.var 5) (.cons (.slc (.var 5) .none (.some (.cst (.int 4)))) (.cons (.blt .list (.cons (.var 5) .nil)) (.cons (.bin .Add (.var 5) (.tup (.cons (.cst (.int 0)) .nil))) (.cons (.cst .none) (.cons (.cst (.int 7)) (.cons (.tup .nil) (.cons .dct0 .nil))))))))))
  d__law_right_6
def d__law_right_4 : B := .cons
  (.ite (.bop .Or (.cons (.un .Not (.call 5 (.cons (.var 1) (.cons (.var 2) (.cons (.var 3) (.cons (.var 5) .nil)))))) (.cons (.cmp .NotEq (.idx (.var 5) (.cst (.int 0))) (.idx (.var 4) (.cst (.int 0)))) .nil))) (.cons (.ret (.cst (.bool false))) .nil) .nil)
  d__law_right_5
def d__law_right_3 : B := .cons
  (.asg (.var 5) (.call 4 (.cons (.var 1) (.cons (.var 2) (.cons (.var 3) .nil)))))
  d__law_right_4
def d__law_right_2 : B := .cons
  (.ite (.bop .Or (.cons (.cmp .NotEq (.blt .repr (.cons (.lst false (.cons (.call 2 (.cons (.var 1) (.cons (.var 2) (.cons (.var 3) .nil)))) (.cons (.call 3 (.cons (.var 1) (.cons (.var 2) (.cons (.var 3) .nil)))) .nil))) .nil)) (.blt .repr (.cons (.var 4) .nil))) (.cons (.cmp .NotEq (.call 2 (.cons (.var 1) (.cons (.var 3) (.cons (.var 2) .nil)))) (.idx (.var 4) (.cst (.int 0)))) .nil))) (.cons (.ret (.cst (.bool false))) .nil) .nil)
  d__law_right_3
def d__law_right_1 : B := .cons
  (.asg (.var 4) (.call 1 (.cons (.var 1) (.cons (.var 2) (.cons (.var 3) .nil)))))
  d__law_right_2
def d__law_right_0 : B := .cons
  (.par [2, 3] (.cons (.call 0 (.cons (.var 0) (.cons (.var 1) (.cons (.cst (.int 24)) .nil)))) (.cons (.call 0 (.cons (.var 0) (.cons (.var 1) (.cons (.cst (.int 24)) .nil)))) .nil)))
  d__law_right_1
@[simp] def d__law_right : Def := ⟨2, 12, 0,
  d__law_right_0⟩
@[simp] def T__law_right : Tab := ⟨[("_law_number", 3, sp__law_number), ("_law_due", 3, sp__law_due), ("divisor", 3, sp_divisor), ("multiple", 3, sp_multiple), ("divisor_paper", 3, sp_divisor_paper), ("_law_is_paper", 4, sp__law_is_paper), ("_law_add", 3, sp__law_add), ("_law_less", 3, sp__law_less), ("is_divisor_paper", 4, sp_is_divisor_paper)], [], ["repr", "list", "range", "abs"]⟩
def N_law : List Str := ["_law_script", "_law_index", "_law_generator_here", "_law_told", "_law_kind_there", "_law_value_there"]
def d_law_5 : B := .cons
  (.ret (.cmp .Eq (.var 3) (.lst false (.cons (.cst (.bool true)) (.cons (.cst (.bool false)) (.cons (.cst (.bool false)) .nil))))))
  .nil
def d_law_4 : B := .cons
  (.asg (.var 3) (.comp [("_law_value_there", 5)] (.var 5) (.dat (.lst false (.cons (.tup (.cons (.cst (.int 6)) (.cons (.cst (.int 2)) (.cons (.cst (.int 3)) (.cons (.un .USub (.cst (.int 1))) (.cons (.cst (.int 1)) .nil)))))) (.cons (.tup (.cons (.cst (.int 3)) (.cons (.cst (.int 4)) (.cons (.cst (.int 6)) (.cons (.un .USub (.cst (.int 1))) (.cons (.cst (.int 1)) .nil)))))) (.cons (.tup (.cons (.un .USub (.cst (.int 6))) (.cons (.un .USub (.cst (.int 2))) (.cons (.un .USub (.cst (.int 3))) (.cons (.cst (.int 1)) (.cons (.un .USub (.cst (.int 1))) .nil)))))) .nil))))) .none (.call 5 (.cons (.cst (.str "hours")) (.cons (.cst (.int 12)) (.cons (.cst (.int 18)) (.cons (.var 5) .nil)))))))
  d_law_5
def d_law_3 : B := .cons
  (.ite (.bop .Or (.cons (.cmp .NotEq (.var 3) (.lst false (.cons (.cst (.int 6)) (.cons (.cst (.int 36)) (.cons (.cst (.int 6)) (.cons (.cst (.int 20)) (.cons (.cst (.int 0)) (.cons (.cst (.int 9)) (.cons (.cst (.int 0)) .nil))))))))) (.cons (.isc true (.call 5 (.cons (.cst (.str "hours")) (.cons (.cst (.int 0)) (.cons (.cst (.int 0)) (.cons (.tup (.cons (.cst (.int 0)) (.cons (.cst (.int 5)) (.cons (.un .USub (.cst (.int 3))) (.cons (.cst (.int 1)) (.cons (.cst (.int 1)) .nil)))))) .nil))))) (.bool true)) (.cons (.isc true (.call 5 (.cons (.cst (.str "hours")) (.cons (.cst (.int 0)) (.cons (.cst (.int 0)) (.cons (.tup (.cons (.cst (.int 1)) (.cons (.cst (.int 0)) (.cons (.cst (.int 0)) (.cons (.cst (.int 0)) (.cons (.cst (.int 0)) .nil)))))) .nil))))) (.bool false)) .nil)))) (.cons (.ret (.cst (.bool false))) .nil) .nil)
  d_law_4
def d_law_2 : B := .cons
  (.for_ (.var 4) (.dat (.lst false (.cons (.cst (.str "hours")) (.cons (.cst (.str "bits")) .nil)))) (.cons (.ite (.bop .Or (.cons (.cmp .NotEq (.idx (.call 4 (.cons (.var 4) (.cons (.cst (.int 0)) (.cons (.cst (.int 0)) .nil)))) (.cst (.int 0))) (.cst (.int 0))) (.cons (.isc true (.call 5 (.cons (.var 4) (.cons (.cst (.int 0)) (.cons (.cst (.int 0)) (.cons (.call 4 (.cons (.var 4) (.cons (.cst (.int 0)) (.cons (.cst (.int 0)) .nil)))) .nil))))) (.bool true)) .nil))) (.cons (.ret (.cst (.bool false))) .nil) .nil) .nil))
  d_law_3
def d_law_1 : B := .cons
  (.asg (.var 3) (.lst false (.cons (.call 2 (.cons (.cst (.str "hours")) (.cons (.un .USub (.cst (.int 12))) (.cons (.cst (.int 18)) .nil)))) (.cons (.call 3 (.cons (.cst (.str "hours")) (.cons (.un .USub (.cst (.int 12))) (.cons (.cst (.int 18)) .nil)))) (.cons (.call 2 (.cons (.cst (.str "bits")) (.cons (.cst (.int 10)) (.cons (.cst (.int 12)) .nil)))) (.cons (.call 3 (.cons (.cst (.str "bits")) (.cons (.cst (.int 10)) (.cons (.cst (.int 12)) .nil)))) (.cons (.call 2 (.cons (.cst (.str "hours")) (.cons (.cst (.int 0)) (.cons (.cst (.int 0)) .nil)))) (.cons (.call 2 (.cons (.cst (.str "bits")) (.cons (.cst (.int 0)) (.cons (.cst (.int 9)) .nil)))) (.cons (.call 3 (.cons (.cst (.str "bits")) (.cons (.cst (.int 0)) (.cons (.cst (.int 9)) .nil)))) .nil)))))))))
  d_law_2
def d_law_0 : B := .cons
  (.for_ (.var 1) (.rng1 (.cst (.int 2))) (.cons (.asg (.var 2) (.call 0 (.cons (.var 0) (.cons (.var 1) .nil)))) (.cons (.ite (.bop .Or (.cons (.un .Not (.call 1 (.cons (.var 2) (.cons (.cst (.str "hours")) .nil)))) (.cons (.un .Not (.call 1 (.cons (.var 2) (.cons (.cst (.str "bits")) .nil)))) .nil))) (.cons (.ret (.cst (.bool false))) .nil) .nil) .nil)))
  d_law_1
@[simp] def d_law : Def := ⟨1, 6, 0,
  d_law_0⟩
@[simp] def T_law : Tab := ⟨[("_law_generator", 2, sp__law_generator), ("_law_right", 2, sp__law_right), ("divisor", 3, sp_divisor), ("multiple", 3, sp_multiple), ("divisor_paper", 3, sp_divisor_paper), ("is_divisor_paper", 4, sp_is_divisor_paper)], [], ["range"]⟩
theorem shb {k : Kd} {t : Int} (h : ok k 602 t) : sh (t + 1) ∧ sh ((t - 1).natAbs : Int) ∧ sh (0 - t) := by
  have h2 := h.2
  have e : (2 : Nat) ^ 602 + 1 ≤ 2 ^ 1000 := by decide +kernel
  unfold sh
  generalize (2 : Nat) ^ 602 = M at h2 e
  generalize (2 : Nat) ^ 1000 = N at e ⊢
  exact ⟨by omega, by omega, by omega⟩
theorem spot5 {k : Kd} {c p q x y : Int} (oc : ok k 602 c) (op : ok k 602 p) (oq : ok k 602 q) (ox : ok k 602 x) (oy : ok k 602 y) {i : Nat} (hi : i < 5) : ∃ (t : Int) (pre post : List PyData), atI [PyData.int c, .int p, .int q, .int x, .int y] (0 + (i : Int)) = some (.int t) ∧ ok k 602 t ∧
    slcF (.tuple [PyData.int c, .int p, .int q, .int x, .int y]) none (some (0 + (i : Int))) = some (.tuple pre) ∧ slcF (.tuple [PyData.int c, .int p, .int q, .int x, .int y]) (some (0 + (i : Int) + 1)) none = some (.tuple post) ∧ (∀ d ∈ pre, smp d) ∧ (∀ d ∈ post, smp d) ∧ pre.length + post.length = 4 := by
  have g : ∀ {t : Int}, ok k 602 t → smp (.int t) := fun h => smp_int (h.sh (by decide))
  have hc := g oc
  have hp := g op
  have hq := g oq
  have hx := g ox
  have hy := g oy
  have : i = 0 ∨ i = 1 ∨ i = 2 ∨ i = 3 ∨ i = 4 := by omega
  rcases this with rfl | rfl | rfl | rfl | rfl
  · exact ⟨c, [], [.int p, .int q, .int x, .int y], rfl, oc, rfl, rfl, by simp, by simp [hp, hq, hx, hy], rfl⟩
  · exact ⟨p, [.int c], [.int q, .int x, .int y], rfl, op, rfl, rfl, by simp [hc], by simp [hq, hx, hy], rfl⟩
  · exact ⟨q, [.int c, .int p], [.int x, .int y], rfl, oq, rfl, rfl, by simp [hc, hp], by simp [hx, hy], rfl⟩
  · exact ⟨x, [.int c, .int p, .int q], [.int y], rfl, ox, rfl, rfl, by simp [hc, hp, hq], by simp [hy], rfl⟩
  · exact ⟨y, [.int c, .int p, .int q, .int x], [], rfl, oy, rfl, rfl, by simp [hc, hp, hq, hx], by simp, rfl⟩
theorem reprd_of {v : PyData} (h : okRow v) : bltF .reprd [v] = some (.str (PyData.shown v)) := by
  rcases h.2 with rfl | h
  · rfl
  · have e : bltF .reprd [v] = if PyData.showable v = true ∧ SeqAt.shaped v = true ∧ (PyData.shown v).length ≤ line then some (.str (PyData.shown v)) else none := by
      cases v with
      | dict ps =>
        have := h.cl
        simp [PyData.canLay0] at this
      | _ => rfl
    rw [e, if_pos h.rp]
set_option exponentiation.threshold 2000
set_option maxHeartbeats 8000000 in
theorem lr6 {k : Kd} {n : Nat} {A B c0 p0 q0 x0 y0 lc : Int} {s1 : ST} {K : KK} (nA : nk k A) (nB : nk k B) (shA : sh A) (shB : sh B)
    (oc : ok k 602 c0) (op : ok k 602 p0) (oq : ok k 602 q0) (ox : ok k 602 x0) (oy : ok k 602 y0) (ec : c0 = kGcd k A.natAbs B.natAbs)
    (rows0 : List PyData) (hr0 : ∀ v ∈ rows0, okRow v) (hl0 : rows0.length = 8) (h : ∀ rows, K.rt (.d (.bool true)) (s1 ++ [rows])) :
    denB T__law_right d__law_right_6 [some (.cell n), some (.d (.str (kS k))), some (.d (.int A)), some (.d (.int B)), some (.d (.list [.int c0, .int lc])), some (.d (.tuple [.int c0, .int p0, .int q0, .int x0, .int y0])), some (.cell s1.length), none, none, none, none, none] (s1 ++ [rows0]) K := by
  simp only [T__law_right, d__law_right_6, sp_divisor, sp_multiple, sp_divisor_paper, sp__law_due, sp__law_add, sp_add_in, sp__law_less, sp_less_in]
  walk_at "wk"
  refine ⟨by decide, by decide, ?_⟩
  refine forGo_ind (fun i env st => ∃ (rows : List PyData) (q7 q8 : Option EV), st = s1 ++ [rows] ∧ (∀ v ∈ rows, okRow v) ∧ rows.length = 8 + 10 * i ∧ env = [some (.cell n), some (.d (.str (kS k))), some (.d (.int A)), some (.d (.int B)), some (.d (.list [.int c0, .int lc])), some (.d (.tuple [.int c0, .int p0, .int q0, .int x0, .int y0])), some (.cell s1.length), q7, q8, none, none, none]) _ ?_ ?_ ⟨rows0, none, none, rfl, hr0, hl0, rfl⟩
  · rintro i t ht env st ⟨rows, q7, q8, rfl, hr, hl, rfl⟩ k' e1 e2 e3 hn hcc
    obtain ⟨rfl, hi⟩ := rngP_get ht
    refine ⟨_, rfl, ?_⟩
    obtain ⟨t, pre, post, g1, g2, g3, g4, g5, g6, g7⟩ := spot5 oc op oq ox oy (show i < 5 from hi)
    obtain ⟨u1, u2, u3⟩ := shb g2
    walk_at "wk"
    refine ⟨_, g1, _, rfl, _, g1, _, rfl, _, rfl, by decide, _, g1, _, rfl, by decide, ?_⟩
    rw [abs_if]
    refine forGo_ind (fun j env st => ∃ (rows' : List PyData) (q8 : Option EV), st = s1 ++ [rows'] ∧ (∀ v ∈ rows', okRow v) ∧ rows'.length = 8 + 10 * i + j ∧ env = [some (.cell n), some (.d (.str (kS k))), some (.d (.int A)), some (.d (.int B)), some (.d (.list [.int c0, .int lc])), some (.d (.tuple [.int c0, .int p0, .int q0, .int x0, .int y0])), some (.cell s1.length), some (.d (.int (0 + (i : Int)))), q8, none, none, none]) _ ?_ ?_ ⟨rows, q8, rfl, hr, hl, rfl⟩
    · rintro j w hw env st ⟨rows', q9, rfl, hr', hl', rfl⟩ k2 f1 f2 f3 hn2 hcc2
      have hj := (List.getElem?_eq_some_iff.mp hw).1
      have hj2 : j < 10 := hj
      have hw2 : smp w := by
        have hm := List.mem_of_getElem? hw
        simp only [List.mem_cons, List.not_mem_nil, or_false] at hm
        rcases hm with rfl | rfl | rfl | rfl | rfl | rfl | rfl | rfl | rfl | rfl
        · exact smp_int u1
        · exact smp_int u2
        · exact smp_int (sm (by decide))
        · exact smp_int (sm (by decide))
        · exact smp_none
        · exact smp_true
        · exact smp_one
        · exact smp_l1
        · exact smp_int u3
        · exact smp_int (sm (by decide))
      refine ⟨_, rfl, ?_⟩
      walk_at "wk"
      have z1 : (pre ++ [w]).length = pre.length + 1 := by simp
      refine ⟨_, rfl, _, g3, by decide, .tuple (pre ++ [w]), by rw [op_tup]; exact if_pos (by simp only [List.length_singleton, line]; omega), _, g4, .tuple (pre ++ [w] ++ post), by rw [op_tup]; exact if_pos (by rw [z1]; simp only [line]; omega), _, _, get_app, rfl, by rw [hl']; simp only [line]; omega, ?_⟩
      rw [set_app]
      refine hn2 _ _ trivial ⟨_, _, rfl, fun v hv => ?_, by rw [List.length_append, hl']; rfl, rfl⟩
      rcases List.mem_append.mp hv with hv | hv
      · exact hr' v hv
      · rw [List.mem_singleton.mp hv]
        refine okRow_tup (fun d hd => ?_) (by rw [List.length_append, z1]; omega)
        rcases List.mem_append.mp hd with hd | hd
        · rcases List.mem_append.mp hd with hd | hd
          · exact g5 d hd
          · rw [List.mem_singleton.mp hd]; exact hw2
        · exact g6 d hd
    · rintro env st ⟨rows', q9, rfl, hr', hl', rfl⟩
      refine hn _ _ trivial ⟨rows', _, _, rfl, hr', by rw [hl']; show 8 + 10 * i + 10 = _; omega, rfl⟩
  · rintro env st ⟨rows, q7, q8, rfl, hr, hl, rfl⟩
    have sc := oc.sh (by decide)
    have sp := op.sh (by decide)
    have sq := oq.sh (by decide)
    have sx := ox.sh (by decide)
    have sy := oy.sh (by decide)
    have vint : ∀ {c p q x y : Int}, sh c → sh p → sh q → sh x → sh y → ∀ d ∈ [PyData.int c, .int p, .int q, .int x, .int y], smp d := fun hc hp hq hx hy d hd => by
      simp only [List.mem_cons, List.not_mem_nil, or_false] at hd
      rcases hd with rfl | rfl | rfl | rfl | rfl
      · exact smp_int hc
      · exact smp_int hp
      · exact smp_int hq
      · exact smp_int hx
      · exact smp_int hy
    have hl2 : rows.length = 58 := hl
    have rest8 : ∀ rows : List PyData, (∀ v ∈ rows, okRow v) → rows.length ≤ 60 → denB T__law_right d__law_right_8 [some (.cell n), some (.d (.str (kS k))), some (.d (.int A)), some (.d (.int B)), some (.d (.list [.int c0, .int lc])), some (.d (.tuple [.int c0, .int p0, .int q0, .int x0, .int y0])), some (.cell s1.length), q7, q8, none, none, none] (s1 ++ [rows]) K := by
      intro rows hr hl
      simp only [T__law_right, d__law_right_8, sp_divisor, sp_multiple, sp_divisor_paper, sp__law_due, sp__law_add, sp_add_in, sp__law_less, sp_less_in]
      walk_at "wk"
      refine ⟨_, rfl, by decide, _, _, get_app, rfl, by simp only [line]; omega, ?_⟩
      rw [set_app]
      have hr2 : ∀ v ∈ rows ++ [PyData.tuple [.int 1, .int A, .int B, .int x0, .int y0]], okRow v := fun v hv => by
        rcases List.mem_append.mp hv with hv | hv
        · exact hr v hv
        · rw [List.mem_singleton.mp hv]; exact okRow_tup (vint (sm (by decide)) shA shB sx sy) (by simp)
      generalize rows ++ [PyData.tuple [.int 1, .int A, .int B, .int x0, .int y0]] = rs at hr2
      simp only [d__law_right_9]
      walk_at "wk"
      refine ⟨rs, get_app, ?_⟩
      refine forGo_ind (fun i env st => st = s1 ++ [rs] ∧ ∃ e9 e10 e11 : Option EV, env = [some (.cell n), some (.d (.str (kS k))), some (.d (.int A)), some (.d (.int B)), some (.d (.list [.int c0, .int lc])), some (.d (.tuple [.int c0, .int p0, .int q0, .int x0, .int y0])), some (.cell s1.length), q7, q8, e9, e10, e11]) _ ?_ ?_ ⟨rfl, none, none, none, rfl⟩
      · rintro i v hv env st ⟨rfl, e9, e10, e11, rfl⟩ k2 f1 f2 f3 hn2 hcc2
        have hrow := hr2 v (List.mem_of_getElem? hv)
        refine ⟨_, rfl, ?_⟩
        simp only [d__law_right_x0_0]
        walk_at "wk"
        refine ⟨_, reprd_of hrow, lip_of ⟨⟨nA, nB⟩, shA, shB, hrow.1⟩ ?_⟩
        refine ⟨_, rfl, ?_⟩
        simp only [d__law_right_x0_1]
        walk_at "wk"
        refine isp_of ⟨⟨nA, nB⟩, shA, shB, hrow.1⟩ ?_
        walk_at "wk"
        refine ⟨rp_bool, rp_bool, ?_⟩
        rw [if_neg (fun h => h rfl)]
        refine ⟨_, reprd_of hrow, ?_⟩
        walk_at "wk"
        rw [if_neg (fun h => h rfl)]
        simp only [d__law_right_x0_2]
        walk_at "wk"
        have go := hn2 [some (.cell n), some (.d (.str (kS k))), some (.d (.int A)), some (.d (.int B)), some (.d (.list [.int c0, .int lc])), some (.d (.tuple [.int c0, .int p0, .int q0, .int x0, .int y0])), some (.cell s1.length), q7, q8, some (.d v), some (.d (.str (PyData.shown v))), some (.d (.bool (pjB k A B v)))] (s1 ++ [rs]) get_app ⟨rfl, _, _, _, rfl⟩
        by_cases hj : pjB k A B v = true
        · rw [if_pos hj]
          obtain ⟨c, p, q, x, y, rfl, ⟨nc, np, nq, nx, ny⟩, h0, h1, h2, h3⟩ := pj_true hj
          have ecc := pap_gcd nA nB h0 np nq nx ny h1 h2 h3
          refine ⟨.int c, rfl, ?_⟩
          walk_at "wk"
          rw [if_neg (fun h => h (ecc.trans ec.symm))]
          exact go
        · rw [if_neg hj]
          exact go
      · rintro env st ⟨rfl, e9, e10, e11, rfl⟩
        simp only [d__law_right_10]
        walk_at "wk"
        exact h rs
    simp only [d__law_right_7]
    walk_at "wk"
    by_cases hc : 0 < c0
    · rw [if_pos hc]
      refine ⟨_, rfl, ⟨ox.1, oq.1⟩, ⟨oy.1, op.1⟩, by decide, _, _, get_app, rfl, by simp only [line]; omega, ?_⟩
      rw [set_app]
      refine rest8 _ (fun v hv => ?_) (by simp; omega)
      rcases List.mem_append.mp hv with hv | hv
      · exact hr v hv
      · rw [List.mem_singleton.mp hv]
        exact okRow_tup (vint sc sp sq ((ok_add ox oq).sh (by decide)) ((ok_less oy op).sh (by decide))) (by simp)
    · rw [if_neg hc]
      exact rest8 _ hr (by omega)
end Gen

namespace Gen
open PySem PySem.Spec PyProof.Rows L2 Mini Eud
local macro_rules
  | `(tactic| walk_at "dn") => `(tactic| simp only [denF, denB, denS, den, denL, denO, denI, denC, DE.of, testOf, boolOf, strict1, strict2, ex_eq_some, ex_ss, ex_di, ex_none, ex_call, ex_look2, ex_look1, ex_tru, some_if, some_map, map_some, looks_nil, looks_d, datas_nil, datas_d, ex_some2, tru_none, tru_bool, tru_int, tru_list, cmp_eq_int, cmp_ne_int, cmp_lt, cmp_le, cmp_gt, cmp_ge, cmp_eq_str, cmp_ne_str, op_add, op_sub, op_mul, op_fdv, op_mod, op_pow, op_shl, op_shr, op_and, op_or, op_xor, op_cat, un_neg, is_none, in_none, in_int, in_str, in_list, blt_len, blt_int, blt_abs, blt_max, blt_min, blt_repr, blt_sum, isi_int_int, isi_int_bool, isi_int_str, isi_str_str, isi_str_int, isi_str_bool, isi_bool_bool, isi_bool_int, isi_none_int, isi_none_str, isi_list_list, isi_list_int, isi_list_str, idx_list, idx_tuple, in2, spI1_at, spD_at, spKD_at, spKD_h, spKD_b, isW_int, isC_int, isN_int, isN_h, isN_b, sp_check_number_at, spK0_at, spK0_h, spK0_b, spK1_at, spK1_h, spK1_b, spK2_at, spK2_h, spK2_b, nk, kS_h, kS_b, l2, hours_bits, bits_hours, List.map_cons, List.map_nil, List.cons_append, List.nil_append, List.replicate_succ, List.replicate_zero, Nat.reduceSub, Nat.reduceAdd, List.getElem?_cons_zero, List.getElem?_cons_succ, List.set_cons_zero, List.set_cons_succ, if_true, if_false, Bool.false_eq_true, decide_eq_true_eq, decide_true, decide_false, Bool.not_true, Bool.not_false, Bool.or_true, Bool.true_or, Bool.or_false, Bool.false_or, exists_eq_left', true_and, and_true, eq_self, List.length_cons, List.length_nil, List.take_length, fin_d, fin_t, Bool.not_eq_true', decide_eq_false_iff_not, and_self, Bool.true_eq_false, reduceCtorEq])
local macro_rules
  | `(tactic| walk_at "dm") => `(tactic| simp only [denF, denB, denS, den, denL, denO, denI, denC, DE.of, testOf, boolOf, strict1, strict2, ex_eq_some, ex_ss, ex_di, ex_none, ex_call, ex_look2, ex_look1, ex_tru, some_if, some_map, map_some, looks_nil, looks_d, datas_nil, datas_d, ex_some2, tru_none, tru_bool, tru_int, tru_list, cmp_eq_int, cmp_ne_int, cmp_lt, cmp_le, cmp_gt, cmp_ge, cmp_eq_str, cmp_ne_str, op_add, op_sub, op_mul, op_fdv, op_mod, op_pow, op_shl, op_shr, op_and, op_or, op_xor, op_cat, un_neg, is_none, in_none, in_int, in_str, in_list, blt_len, blt_int, blt_abs, blt_max, blt_min, blt_repr, blt_sum, isi_int_int, isi_int_bool, isi_int_str, isi_str_str, isi_str_int, isi_str_bool, isi_bool_bool, isi_bool_int, isi_none_int, isi_none_str, isi_list_list, isi_list_int, isi_list_str, idx_list, idx_tuple, in2, spI1_at, spD_at, spKD_at, spKD_h, spKD_b, isW_int, isC_int, isN_int, isN_h, isN_b, sp_check_number_at, spK0_at, spK0_h, spK0_b, spK1_at, spK1_h, spK1_b, spK2_at, spK2_h, spK2_b, kS_h, kS_b, l2, hours_bits, bits_hours, List.map_cons, List.map_nil, List.cons_append, List.nil_append, List.replicate_succ, List.replicate_zero, Nat.reduceSub, Nat.reduceAdd, List.getElem?_cons_zero, List.getElem?_cons_succ, List.set_cons_zero, List.set_cons_succ, if_true, if_false, Bool.false_eq_true, decide_eq_true_eq, decide_true, decide_false, Bool.not_true, Bool.not_false, Bool.or_true, Bool.true_or, Bool.or_false, Bool.false_or, exists_eq_left', true_and, and_true, eq_self, List.length_cons, List.length_nil, List.take_length, fin_d, fin_t, Bool.not_eq_true', decide_eq_false_iff_not, and_self, Bool.true_eq_false, reduceCtorEq])
local macro_rules
  | `(tactic| walk_at "dx") => `(tactic| ((try simp only [blt_len_t, isi_tt, at20, at21, ex_eq_some, cmp_eq_none, sp_thing_fits_at]); walk_at "dm"))
local macro_rules
  | `(tactic| walk_at "wk") => `(tactic| repeat (first | simp only [at50, at51, at52, at53, at54, at2x, is_tt, isi_tt, blt_len_t, ex_eq_some] | walk_at "dm"))
set_option exponentiation.threshold 2000
set_option maxHeartbeats 8000000 in
theorem b__law_right : ∀ (es : List EV) (s : ST) (Q : QE) (X : QX), es.length = d__law_right.np → sp__law_right es s Q X → denF T__law_right d__law_right es s Q X := by
  rintro es s Q X hl ⟨n, k, a, sd, c, rfl, hst, ⟨⟨g1, g2⟩, g3, g4⟩, q⟩
  have hn : n < s.length := (List.getElem?_eq_some_iff.mp hst).1
  simp only [T__law_right, d__law_right, d__law_right_0, sp_divisor, sp_multiple, sp_divisor_paper, sp__law_due, sp__law_add, sp_add_in, sp__law_less, sp_less_in]
  walk_at "dm"
  rw [sp__law_number_at]
  refine ⟨⟨by decide, by decide⟩, a, sd, c, hst, ⟨⟨g1, g2⟩, by omega, by omega⟩, fun A a1 c1 hA j1 j2 => ?_⟩
  show sp__law_number _ _ _ _
  rw [sp__law_number_at]
  refine ⟨⟨by decide, by decide⟩, a1, sd, c1, List.getElem?_set_self hn, ⟨⟨g1, g2⟩, by omega, by omega⟩, fun B a2 c2 hB j3 j4 => ?_⟩
  rw [List.set_set]
  show ∃ e1, _ ∧ _
  have nb : ∀ {r : Int}, numR k 24 r → nk k r ∧ r.natAbs ≤ 24 := fun {r} h => by
    cases k
    · have h1 : (-24 : Int) ≤ r := h.1
      have h2 : r ≤ 24 := h.2
      exact ⟨trivial, by omega⟩
    · have h1 : (0 : Int) ≤ r := h.1
      have h2 : r < 24 := h.2
      exact ⟨h1, by omega⟩
  obtain ⟨nA, sA⟩ := nb hA
  obtain ⟨nB, sB⟩ := nb hB
  refine ⟨_, rfl, ?_⟩
  simp only [d__law_right_1]
  walk_at "dm"
  refine ⟨⟨⟨nA, nB⟩, sA, sB⟩, ?_⟩
  have oA : ok k 300 A := ⟨nA, Nat.lt_of_le_of_lt sA (by decide +kernel)⟩
  have oB : ok k 300 B := ⟨nB, Nat.lt_of_le_of_lt sB (by decide +kernel)⟩
  have A0 : (0 : Int) ≤ A.natAbs := by omega
  have B0 : (0 : Int) ≤ B.natAbs := by omega
  have og : ok k 5 (kGcd k A.natAbs B.natAbs) := kGcd_le (k := k) A0 B0 (by omega) (by omega)
  have ol : ok k 10 (kLcm k A.natAbs B.natAbs) := ok_lcm (k := k) (m := 5) (n := 5) A0 B0 (by omega) (by omega)
  have hc := (gl k A.natAbs B.natAbs 0 A0 B0 (by omega)).2.2.2.2.2.2.2.2
  simp only [d__law_right_2]
  walk_at "dm"
  have shA : sh A := oA.sh (by decide)
  have shB : sh B := oB.sh (by decide)
  have rp2 := rp_ints (xs := [kGcd k A.natAbs B.natAbs, kLcm k A.natAbs B.natAbs]) (fun x hx => by
    rcases List.mem_cons.mp hx with rfl | hx
    · exact og.sh (by decide)
    · rw [List.mem_singleton.mp hx]; exact ol.sh (by decide)) (by simp)
  refine ⟨⟨⟨nA, nB⟩, shA, shB⟩, ⟨⟨nA, nB⟩, shA, shB⟩, rp2, rp2, ?_⟩
  rw [if_neg (fun h => h rfl)]
  refine ⟨⟨⟨nB, nA⟩, shB, shA⟩, _, rfl, ?_⟩
  rw [← hc]
  walk_at "dm"
  rw [if_neg (fun h => h rfl)]
  simp only [d__law_right_3]
  walk_at "dm"
  refine ⟨⟨oA, oB⟩, ?_⟩
  obtain ⟨c0, p0, q0, x0, y0, et, ⟨oc, op, oq, ox, oy⟩, hp, ec⟩ := papT_spec oA oB
  rw [et]
  rw [← ec]
  rw [← ec] at og
  simp only [d__law_right_4]
  walk_at "dm"
  have vint : ∀ {c p q x y : Int}, sh c → sh p → sh q → sh x → sh y → ∀ d ∈ [PyData.int c, .int p, .int q, .int x, .int y], smp d := fun hc hp hq hx hy d hd => by
    simp only [List.mem_cons, List.not_mem_nil, or_false] at hd
    rcases hd with rfl | rfl | rfl | rfl | rfl
    · exact smp_int hc
    · exact smp_int hp
    · exact smp_int hq
    · exact smp_int hx
    · exact smp_int hy
  have sc := oc.sh (by decide)
  have sp := op.sh (by decide)
  have sq := oq.sh (by decide)
  have sx := ox.sh (by decide)
  have sy := oy.sh (by decide)
  refine lip_of ⟨⟨nA, nB⟩, shA, shB, (okRow_tup (vint sc sp sq sx sy) (by simp)).1⟩ ?_
  rw [pj_ints ⟨oc.1, op.1, oq.1, ox.1, oy.1⟩, decide_eq_true hp]
  refine ⟨_, _, rfl, rfl, ?_⟩
  walk_at "wk"
  rw [if_neg (fun h => h rfl)]
  simp only [d__law_right_5]
  walk_at "wk"
  have hl1 : (List.set s n (gst a2 sd c2)).length = s.length := List.length_set
  refine ⟨.tuple [.int c0, .int p0, .int q0, .int x0], rfl, .list [.int c0, .int p0, .int q0, .int x0, .int y0], rfl, by decide, .tuple [.int c0, .int p0, .int q0, .int x0, .int y0, .int 0], rfl, by decide, by decide, ?_⟩
  refine lr6 nA nB shA shB oc op oq ox oy ec _ (fun v hv => ?_) rfl (fun rows => ?_)
  · have hv5 := vint sc sp sq sx sy
    have h1 := hv5 (.int c0) (by simp)
    have h2 := hv5 (.int p0) (by simp)
    have h3 := hv5 (.int q0) (by simp)
    have h4 := hv5 (.int x0) (by simp)
    have h5 := hv5 (.int y0) (by simp)
    have hz : smp (.int 0) := smp_int (sm (by decide))
    simp only [List.mem_cons, List.not_mem_nil, or_false] at hv
    rcases hv with rfl | rfl | rfl | rfl | rfl | rfl | rfl | rfl
    · exact okRow_tup hv5 (by simp)
    · exact okRow_tup (by simp [h1, h2, h3, h4]) (by simp)
    · exact okRow_list hv5 (by simp)
    · exact okRow_tup (by simp [h1, h2, h3, h4, h5, hz]) (by simp)
    · exact okRow_none
    · exact okRow_int (sm (by decide))
    · exact okRow_tup (by simp) (by simp)
    · exact okRow_dct
  · simp only [fin_d]
    rw [List.take_append_of_le_length (by rw [hl1]; exact Nat.le_refl _), List.take_of_length_le (by rw [hl1]; exact Nat.le_refl _)]
    exact q a2 c2 (by omega) (by omega)
end Gen

namespace Gen
open PySem PySem.Spec PyProof.Rows L2 Mini Eud
local macro_rules
  | `(tactic| walk_at "dn") => `(tactic| simp only [denF, denB, denS, den, denL, denO, denI, denC, DE.of, testOf, boolOf, strict1, strict2, ex_eq_some, ex_ss, ex_di, ex_none, ex_call, ex_look2, ex_look1, ex_tru, some_if, some_map, map_some, looks_nil, looks_d, datas_nil, datas_d, ex_some2, tru_none, tru_bool, tru_int, tru_list, cmp_eq_int, cmp_ne_int, cmp_lt, cmp_le, cmp_gt, cmp_ge, cmp_eq_str, cmp_ne_str, op_add, op_sub, op_mul, op_fdv, op_mod, op_pow, op_shl, op_shr, op_and, op_or, op_xor, op_cat, un_neg, is_none, in_none, in_int, in_str, in_list, blt_len, blt_int, blt_abs, blt_max, blt_min, blt_repr, blt_sum, isi_int_int, isi_int_bool, isi_int_str, isi_str_str, isi_str_int, isi_str_bool, isi_bool_bool, isi_bool_int, isi_none_int, isi_none_str, isi_list_list, isi_list_int, isi_list_str, idx_list, idx_tuple, in2, spI1_at, spD_at, spKD_at, spKD_h, spKD_b, isW_int, isC_int, isN_int, isN_h, isN_b, sp_check_number_at, spK0_at, spK0_h, spK0_b, spK1_at, spK1_h, spK1_b, spK2_at, spK2_h, spK2_b, nk, kS_h, kS_b, l2, hours_bits, bits_hours, List.map_cons, List.map_nil, List.cons_append, List.nil_append, List.replicate_succ, List.replicate_zero, Nat.reduceSub, Nat.reduceAdd, List.getElem?_cons_zero, List.getElem?_cons_succ, List.set_cons_zero, List.set_cons_succ, if_true, if_false, Bool.false_eq_true, decide_eq_true_eq, decide_true, decide_false, Bool.not_true, Bool.not_false, Bool.or_true, Bool.true_or, Bool.or_false, Bool.false_or, exists_eq_left', true_and, and_true, eq_self, List.length_cons, List.length_nil, List.take_length, fin_d, fin_t, Bool.not_eq_true', decide_eq_false_iff_not, and_self, Bool.true_eq_false, reduceCtorEq])
local macro_rules
  | `(tactic| walk_at "dm") => `(tactic| simp only [denF, denB, denS, den, denL, denO, denI, denC, DE.of, testOf, boolOf, strict1, strict2, ex_eq_some, ex_ss, ex_di, ex_none, ex_call, ex_look2, ex_look1, ex_tru, some_if, some_map, map_some, looks_nil, looks_d, datas_nil, datas_d, ex_some2, tru_none, tru_bool, tru_int, tru_list, cmp_eq_int, cmp_ne_int, cmp_lt, cmp_le, cmp_gt, cmp_ge, cmp_eq_str, cmp_ne_str, op_add, op_sub, op_mul, op_fdv, op_mod, op_pow, op_shl, op_shr, op_and, op_or, op_xor, op_cat, un_neg, is_none, in_none, in_int, in_str, in_list, blt_len, blt_int, blt_abs, blt_max, blt_min, blt_repr, blt_sum, isi_int_int, isi_int_bool, isi_int_str, isi_str_str, isi_str_int, isi_str_bool, isi_bool_bool, isi_bool_int, isi_none_int, isi_none_str, isi_list_list, isi_list_int, isi_list_str, idx_list, idx_tuple, in2, spI1_at, spD_at, spKD_at, spKD_h, spKD_b, isW_int, isC_int, isN_int, isN_h, isN_b, sp_check_number_at, spK0_at, spK0_h, spK0_b, spK1_at, spK1_h, spK1_b, spK2_at, spK2_h, spK2_b, kS_h, kS_b, l2, hours_bits, bits_hours, List.map_cons, List.map_nil, List.cons_append, List.nil_append, List.replicate_succ, List.replicate_zero, Nat.reduceSub, Nat.reduceAdd, List.getElem?_cons_zero, List.getElem?_cons_succ, List.set_cons_zero, List.set_cons_succ, if_true, if_false, Bool.false_eq_true, decide_eq_true_eq, decide_true, decide_false, Bool.not_true, Bool.not_false, Bool.or_true, Bool.true_or, Bool.or_false, Bool.false_or, exists_eq_left', true_and, and_true, eq_self, List.length_cons, List.length_nil, List.take_length, fin_d, fin_t, Bool.not_eq_true', decide_eq_false_iff_not, and_self, Bool.true_eq_false, reduceCtorEq])
local macro_rules
  | `(tactic| walk_at "dx") => `(tactic| ((try simp only [blt_len_t, isi_tt, at20, at21, ex_eq_some, cmp_eq_none, sp_thing_fits_at]); walk_at "dm"))
local macro_rules
  | `(tactic| walk_at "wk") => `(tactic| repeat (first | simp only [at50, at51, at52, at53, at54, at2x, is_tt, isi_tt, blt_len_t, ex_eq_some] | walk_at "dm"))
def sp_law : Mini.Spec := fun es st Q _ => ∃ ns : List Int, es = [.d (.list (ns.map .int))] ∧ Q (.d (.bool true)) st
theorem hsp : ∀ ns : List Int, ns.length ≤ 63 → sp_law [.d (.list (ns.map PyData.int))] [] (fun v _ => v = .d (.bool true)) fun _ _ => False := fun ns _ => ⟨ns, rfl, rfl⟩
theorem one_gcd {k : Kd} {a b r : Int} {st : ST} {Q : QE} {X : QX} (h : (nk k a ∧ nk k b) ∧ sh a ∧ sh b) (e : kGcd k a.natAbs b.natAbs = r) (q : Q (.d (.int r)) st) : sp_divisor [.d (.str (kS k)), .d (.int a), .d (.int b)] st Q X :=
  ⟨k, a, b, rfl, h, by show Q (.d (.int _)) st; rw [e]; exact q⟩
theorem one_lcm {k : Kd} {a b r : Int} {st : ST} {Q : QE} {X : QX} (h : (nk k a ∧ nk k b) ∧ sh a ∧ sh b) (e : kLcm k a.natAbs b.natAbs = r) (q : Q (.d (.int r)) st) : sp_multiple [.d (.str (kS k)), .d (.int a), .d (.int b)] st Q X :=
  ⟨k, a, b, rfl, h, by show Q (.d (.int _)) st; rw [e]; exact q⟩
theorem one_pap {k : Kd} {a b : Int} {r : PyData} {st : ST} {Q : QE} {X : QX} (h : ok k 300 a ∧ ok k 300 b) (e : papT k a b = r) (q : Q (.d r) st) : sp_divisor_paper [.d (.str (kS k)), .d (.int a), .d (.int b)] st Q X :=
  ⟨k, a, b, rfl, h, by show Q (.d _) st; rw [e]; exact q⟩
theorem one_isp {k : Kd} {a b : Int} {v : PyData} {r : Bool} {st : ST} {Q : QE} {X : QX} (h : (nk k a ∧ nk k b) ∧ sh a ∧ sh b ∧ vOk v) (e : pjB k a b v = r) (q : Q (.d (.bool r)) st) : sp_is_divisor_paper [.d (.str (kS k)), .d (.int a), .d (.int b), .d v] st Q X :=
  ⟨k, a, b, v, rfl, h, by show Q (.d (.bool _)) st; rw [e]; exact q⟩
theorem v5 {c p q x y : Int} (h : c.natAbs < 256 ∧ p.natAbs < 256 ∧ q.natAbs < 256 ∧ x.natAbs < 256 ∧ y.natAbs < 256) : vOk (.tuple [.int c, .int p, .int q, .int x, .int y]) := (okRow_tup (fun d hd => by
  simp only [List.mem_cons, List.not_mem_nil, or_false] at hd
  rcases hd with rfl | rfl | rfl | rfl | rfl
  · exact smp_int (sm h.1)
  · exact smp_int (sm h.2.1)
  · exact smp_int (sm h.2.2.1)
  · exact smp_int (sm h.2.2.2.1)
  · exact smp_int (sm h.2.2.2.2)) (by simp)).1
theorem pap00 (k : Kd) : papT k 0 0 = .tuple [.int 0, .int 0, .int 0, .int 0, .int 0] := if_pos (by cases k <;> decide +kernel)
theorem pj00 (k : Kd) : pjB k 0 0 (.tuple [.int 0, .int 0, .int 0, .int 0, .int 0]) = true := by cases k <;> decide +kernel
theorem n2 {k : Kd} {a b : Int} (ha : nk k a) (hb : nk k b) (h : a.natAbs < 256 ∧ b.natAbs < 256) : (nk k a ∧ nk k b) ∧ sh a ∧ sh b := ⟨⟨ha, hb⟩, sm h.1, sm h.2⟩
theorem n2' {k : Kd} {a b : Int} {v : PyData} (ha : nk k a) (hb : nk k b) (h : a.natAbs < 256 ∧ b.natAbs < 256) (hv : vOk v) : (nk k a ∧ nk k b) ∧ sh a ∧ sh b ∧ vOk v := ⟨⟨ha, hb⟩, sm h.1, sm h.2, hv⟩
set_option maxHeartbeats 8000000 in
theorem b_law : ∀ (es : List EV) (s : ST) (Q : QE) (X : QX), es.length = d_law.np → sp_law es s Q X → denF T_law d_law es s Q X := by
  rintro es s Q X hl ⟨ns, rfl, q⟩
  simp only [T_law, d_law, d_law_0]
  walk_at "dm"
  refine ⟨by decide, by decide, ?_⟩
  refine forGo_ind (fun i env st => st.take s.length = s ∧ s.length ≤ st.length ∧ ∃ q1 q2 : Option EV, env = [some (.d (.list (ns.map .int))), q1, q2, none, none, none]) _ ?_ ?_ ⟨by simp, by simp, none, none, rfl⟩
  · rintro i t ht env st ⟨h1, h2, q1, q2, rfl⟩ k' e1 e2 e3 hn hc
    obtain ⟨rfl, hi⟩ := rngP_get ht
    refine ⟨_, rfl, ?_⟩
    walk_at "dm"
    rw [sp__law_generator_at]
    have hi2 : i < 2 := hi
    refine ⟨by omega, fun a sd g1 g2 => ?_⟩
    refine ⟨st.length, .h, a, sd, _, rfl, get_app, ⟨⟨g1, g2⟩, by omega, by omega⟩, fun a' c' c1 c2 => ?_⟩
    walk_at "dm"
    rw [set_app]
    refine ⟨st.length, .b, a', sd, c', rfl, get_app, ⟨⟨g1, g2⟩, by omega, by omega⟩, fun a2 c3 c4 c5 => ?_⟩
    walk_at "dm"
    rw [set_app]
    refine hn _ _ trivial ⟨?_, ?_, some (.d (.int (0 + (i : Int)))), some (.cell st.length), rfl⟩
    · rw [List.take_append_of_le_length h2, h1]
    · simp only [List.length_append]; omega
  · rintro env st ⟨h1, h2, q1, q2, rfl⟩
    simp only [d_law_1]
    walk_at "wk"
    refine one_gcd (k := .h) (n2 trivial trivial (by decide)) (r := 6) (by decide +kernel) ?_
    refine one_lcm (k := .h) (n2 trivial trivial (by decide)) (r := 36) (by decide +kernel) ?_
    refine one_gcd (k := .b) (n2 (nk_of_nn (by decide)) (nk_of_nn (by decide)) (by decide)) (r := 6) (by decide +kernel) ?_
    refine one_lcm (k := .b) (n2 (nk_of_nn (by decide)) (nk_of_nn (by decide)) (by decide)) (r := 20) (by decide +kernel) ?_
    refine one_gcd (k := .h) (n2 trivial trivial (by decide)) (r := 0) (by decide +kernel) ?_
    refine one_gcd (k := .b) (n2 (nk_of_nn (by decide)) (nk_of_nn (by decide)) (by decide)) (r := 9) (by decide +kernel) ?_
    refine one_lcm (k := .b) (n2 (nk_of_nn (by decide)) (nk_of_nn (by decide)) (by decide)) (r := 0) (by decide +kernel) ?_
    refine ⟨_, rfl, by decide, ?_⟩
    simp only [d_law_2]
    walk_at "wk"
    have told : Option EV := some (.d (.list [.int 6, .int 36, .int 6, .int 20, .int 0, .int 9, .int 0]))
    refine forGo_ind (fun i env st' => st' = st ∧ ∃ e4 : Option EV, env = [some (.d (.list (ns.map .int))), q1, q2, some (.d (.list [.int 6, .int 36, .int 6, .int 20, .int 0, .int 9, .int 0])), e4, none]) _ ?_ ?_ ⟨rfl, none, rfl⟩
    · rintro i t ht env st' ⟨rfl, e4, rfl⟩ k' e1 e2 e3 hn hc
      obtain ⟨k, rfl⟩ : ∃ k, t = .str (kS k) := by
        have hm := List.mem_of_getElem? ht
        simp only [List.mem_cons, List.not_mem_nil, or_false] at hm
        rcases hm with rfl | rfl
        · exact ⟨.h, rfl⟩
        · exact ⟨.b, rfl⟩
      refine ⟨_, rfl, ?_⟩
      walk_at "wk"
      have n00 : ok k 300 0 ∧ ok k 300 0 := ⟨ok_0, ok_0⟩
      refine one_pap n00 (pap00 k) ?_
      refine ⟨_, _, _, rfl, rfl, rfl, _, rfl, ?_⟩
      rw [if_neg (by decide)]
      refine one_pap n00 (pap00 k) ?_
      refine one_isp ⟨⟨ok_0 (m := 1) |>.1, ok_0 (m := 1) |>.1⟩, sm (by decide), sm (by decide), v5 (by decide)⟩ (pj00 k) ?_
      refine ⟨_, _, rfl, rfl, _, rfl, ?_⟩
      exact hn _ _ trivial ⟨rfl, _, rfl⟩
    · rintro env st' ⟨rfl, e4, rfl⟩
      simp only [d_law_3]
      walk_at "wk"
      refine ⟨by decide, false, by decide +kernel, ?_⟩
      rw [if_neg (by decide)]
      refine ⟨by decide, one_isp (k := .h) (r := true) (n2' trivial trivial (by decide) (v5 (by decide))) (by decide +kernel) ?_⟩
      refine ⟨_, _, rfl, rfl, _, rfl, ?_⟩
      rw [if_neg (by decide)]
      refine ⟨by decide, one_isp (k := .h) (r := false) (n2' trivial trivial (by decide) (v5 (by decide))) (by decide +kernel) ?_⟩
      refine ⟨_, _, rfl, rfl, _, rfl, ?_⟩
      rw [if_neg (by decide)]
      simp only [d_law_4]
      walk_at "wk"
      refine ⟨by decide, by decide, by decide, by decide, ?_⟩
      have w3 : (nk .h 12 ∧ nk .h 18) ∧ sh 12 ∧ sh 18 := n2 trivial trivial (by decide)
      refine compGo_pure (fun _ => true) (fun d => .bool (pjB .h 12 18 d)) (by show 3 ≤ line; decide) trivial ?_ ?_
      · intro t ht
        have hv : vOk t := by
          simp only [List.mem_cons, List.not_mem_nil, or_false] at ht
          rcases ht with rfl | rfl | rfl
          · exact v5 (by decide)
          · exact v5 (by decide)
          · exact v5 (by decide)
        refine ⟨_, rfl, fun R hR => hR, fun _ R hR => ?_⟩
        simp only [wipeE]
        walk_at "wk"
        exact one_isp (k := .h) ⟨w3.1, w3.2.1, w3.2.2, hv⟩ rfl hR
      · have e : ((List.filter (fun _ => true) [PyData.tuple [PyData.int 6, PyData.int 2, PyData.int 3, PyData.int (-1), PyData.int 1], PyData.tuple [PyData.int 3, PyData.int 4, PyData.int 6, PyData.int (-1), PyData.int 1],
            PyData.tuple [PyData.int (-6), PyData.int (-2), PyData.int (-3), PyData.int 1, PyData.int (-1)]]).map fun d => PyData.bool (pjB .h 12 18 d)) = [.bool true, .bool false, .bool false] := by
          rw [List.filter_eq_self.mpr (by simp)]
          have a1 : pjB .h 12 18 (.tuple [.int 6, .int 2, .int 3, .int (-1), .int 1]) = true := by decide +kernel
          have a2 : pjB .h 12 18 (.tuple [.int 3, .int 4, .int 6, .int (-1), .int 1]) = false := by decide +kernel
          have a3 : pjB .h 12 18 (.tuple [.int (-6), .int (-2), .int (-3), .int 1, .int (-1)]) = false := by decide +kernel
          simp only [List.map_cons, List.map_nil, a1, a2, a3]
        rw [e]
        simp only [d_law_5]
        walk_at "wk"
        refine ⟨by decide, true, by decide +kernel, ?_⟩
        rw [h1]
        exact q
end Gen

namespace Gen
open PySem PySem.Spec PyProof.Rows L2 Mini
def topS (i : Nat) : Stmt := PySem.Challenge.pw_hourrings_k08_whole_divisors_and_multipl.main.body.getD i (.Pass ⟨0, 0, 0, 0⟩)
section
variable {P : Program} {wd : World} {K : PySem.W.Frag} {mg : Str → Option Value} {base : Heap}
theorem S__law_cell : FnScope N__law_cell ["_law_script", "_law_index"] (defScope (topS 31)) := ⟨rfl, rfl, rfl, by decide +kernel, rfl, by decide +kernel, by decide +kernel⟩
theorem m__law_cell : mB T__law_cell N__law_cell (defScope (topS 31)) d__law_cell.body (defBody (topS 31)) = true := by decide +kernel
theorem h__law_cell (A : FunAt K mg "_law_cell" (topS 31) ["_law_script", "_law_index"]) (z_len : mg "len" = none) (z_sum : mg "sum" = none)   : Has P wd K mg base 1 "_law_cell" 2 sp__law_cell := has_def (T := T__law_cell) (d := d__law_cell) A S__law_cell (List.forall_mem_cons.mpr ⟨z_len, List.forall_mem_cons.mpr ⟨z_sum, fun x hx => nomatch hx⟩⟩) (fun x hx => nomatch hx) .nil rfl rfl m__law_cell b__law_cell
theorem S__law_generator : FnScope N__law_generator ["_law_script", "_law_index"] (defScope (topS 32)) := ⟨rfl, rfl, rfl, by decide +kernel, rfl, by decide +kernel, by decide +kernel⟩
theorem m__law_generator : mB T__law_generator N__law_generator (defScope (topS 32)) d__law_generator.body (defBody (topS 32)) = true := by decide +kernel
theorem h__law_generator (A : FunAt K mg "_law_generator" (topS 32) ["_law_script", "_law_index"]) (z_int : mg "int" = none) (z_max : mg "max" = none)  (c__law_cell : Has P wd K mg base 1 "_law_cell" 2 sp__law_cell) : Has P wd K mg base 2 "_law_generator" 2 sp__law_generator := has_def (T := T__law_generator) (d := d__law_generator) A S__law_generator (List.forall_mem_cons.mpr ⟨z_int, List.forall_mem_cons.mpr ⟨z_max, fun x hx => nomatch hx⟩⟩) (fun x hx => nomatch hx) (.cons c__law_cell (by decide) .nil) rfl rfl m__law_generator b__law_generator
theorem S_is_kind : FnScope N_is_kind ["value"] (defScope (topS 7)) := ⟨rfl, rfl, rfl, by decide +kernel, rfl, by decide +kernel, by decide +kernel⟩
theorem m_is_kind : mB T_is_kind N_is_kind (defScope (topS 7)) d_is_kind.body (defBody (topS 7)) = true := by decide +kernel
theorem h_is_kind (A : FunAt K mg "is_kind" (topS 7) ["value"]) (z_isinstance : mg "isinstance" = none) (z_str : mg "str" = none)   : Has P wd K mg base 1 "is_kind" 1 sp_is_kind := has_def (T := T_is_kind) (d := d_is_kind) A S_is_kind (List.forall_mem_cons.mpr ⟨z_isinstance, List.forall_mem_cons.mpr ⟨z_str, fun x hx => nomatch hx⟩⟩) (fun x hx => nomatch hx) .nil rfl rfl m_is_kind b_is_kind
theorem S_check_kind : FnScope N_check_kind ["kind"] (defScope (topS 8)) := ⟨rfl, rfl, rfl, by decide +kernel, rfl, by decide +kernel, by decide +kernel⟩
theorem m_check_kind : mB T_check_kind N_check_kind (defScope (topS 8)) d_check_kind.body (defBody (topS 8)) = true := by decide +kernel
theorem h_check_kind (A : FunAt K mg "check_kind" (topS 8) ["kind"])   (c_is_kind : Has P wd K mg base 1 "is_kind" 1 sp_is_kind) : Has P wd K mg base 2 "check_kind" 1 sp_check_kind := has_def (T := T_check_kind) (d := d_check_kind) A S_check_kind (fun x hx => nomatch hx) (fun x hx => nomatch hx) (.cons c_is_kind (by decide) .nil) rfl rfl m_check_kind b_check_kind
theorem S_is_whole : FnScope N_is_whole ["value"] (defScope (topS 5)) := ⟨rfl, rfl, rfl, by decide +kernel, rfl, by decide +kernel, by decide +kernel⟩
theorem m_is_whole : mB T_is_whole N_is_whole (defScope (topS 5)) d_is_whole.body (defBody (topS 5)) = true := by decide +kernel
theorem h_is_whole (A : FunAt K mg "is_whole" (topS 5) ["value"]) (z_isinstance : mg "isinstance" = none) (z_int : mg "int" = none) (z_bool : mg "bool" = none)   : Has P wd K mg base 1 "is_whole" 1 sp_is_whole := has_def (T := T_is_whole) (d := d_is_whole) A S_is_whole (List.forall_mem_cons.mpr ⟨z_isinstance, List.forall_mem_cons.mpr ⟨z_int, List.forall_mem_cons.mpr ⟨z_bool, fun x hx => nomatch hx⟩⟩⟩) (fun x hx => nomatch hx) .nil rfl rfl m_is_whole b_is_whole
theorem S_is_count : FnScope N_is_count ["value"] (defScope (topS 6)) := ⟨rfl, rfl, rfl, by decide +kernel, rfl, by decide +kernel, by decide +kernel⟩
theorem m_is_count : mB T_is_count N_is_count (defScope (topS 6)) d_is_count.body (defBody (topS 6)) = true := by decide +kernel
theorem h_is_count (A : FunAt K mg "is_count" (topS 6) ["value"])   (c_is_whole : Has P wd K mg base 1 "is_whole" 1 sp_is_whole) : Has P wd K mg base 2 "is_count" 1 sp_is_count := has_def (T := T_is_count) (d := d_is_count) A S_is_count (fun x hx => nomatch hx) (fun x hx => nomatch hx) (.cons c_is_whole (by decide) .nil) rfl rfl m_is_count b_is_count
theorem S_is_number_of : FnScope N_is_number_of ["kind", "value"] (defScope (topS 9)) := ⟨rfl, rfl, rfl, by decide +kernel, rfl, by decide +kernel, by decide +kernel⟩
theorem m_is_number_of : mB T_is_number_of N_is_number_of (defScope (topS 9)) d_is_number_of.body (defBody (topS 9)) = true := by decide +kernel
theorem h_is_number_of (A : FunAt K mg "is_number_of" (topS 9) ["kind", "value"])   (c_is_whole : Has P wd K mg base 1 "is_whole" 1 sp_is_whole) (c_is_count : Has P wd K mg base 2 "is_count" 1 sp_is_count) : Has P wd K mg base 3 "is_number_of" 2 sp_is_number_of := has_def (T := T_is_number_of) (d := d_is_number_of) A S_is_number_of (fun x hx => nomatch hx) (fun x hx => nomatch hx) (.cons c_is_whole (by decide) (.cons c_is_count (by decide) .nil)) rfl rfl m_is_number_of b_is_number_of
theorem S_check_of : FnScope N_check_of ["kind", "number"] (defScope (topS 21)) := ⟨rfl, rfl, rfl, by decide +kernel, rfl, by decide +kernel, by decide +kernel⟩
theorem m_check_of : mB T_check_of N_check_of (defScope (topS 21)) d_check_of.body (defBody (topS 21)) = true := by decide +kernel
theorem h_check_of (A : FunAt K mg "check_of" (topS 21) ["kind", "number"])   (c_is_number_of : Has P wd K mg base 3 "is_number_of" 2 sp_is_number_of) : Has P wd K mg base 4 "check_of" 2 sp_check_of := has_def (T := T_check_of) (d := d_check_of) A S_check_of (fun x hx => nomatch hx) (fun x hx => nomatch hx) (.cons c_is_number_of (by decide) .nil) rfl rfl m_check_of b_check_of
theorem S_check_pair : FnScope N_check_pair ["kind", "one", "other"] (defScope (topS 22)) := ⟨rfl, rfl, rfl, by decide +kernel, rfl, by decide +kernel, by decide +kernel⟩
theorem m_check_pair : mB T_check_pair N_check_pair (defScope (topS 22)) d_check_pair.body (defBody (topS 22)) = true := by decide +kernel
theorem h_check_pair (A : FunAt K mg "check_pair" (topS 22) ["kind", "one", "other"])   (c_check_kind : Has P wd K mg base 2 "check_kind" 1 sp_check_kind) (c_check_of : Has P wd K mg base 4 "check_of" 2 sp_check_of) : Has P wd K mg base 5 "check_pair" 3 sp_check_pair := has_def (T := T_check_pair) (d := d_check_pair) A S_check_pair (fun x hx => nomatch hx) (fun x hx => nomatch hx) (.cons c_check_kind (by decide) (.cons c_check_of (by decide) .nil)) rfl rfl m_check_pair b_check_pair
theorem S_divided_in : FnScope N_divided_in ["kind", "number", "by"] (defScope (topS 14)) := ⟨rfl, rfl, rfl, by decide +kernel, rfl, by decide +kernel, by decide +kernel⟩
theorem m_divided_in : mB T_divided_in N_divided_in (defScope (topS 14)) d_divided_in.body (defBody (topS 14)) = true := by decide +kernel
theorem h_divided_in (A : FunAt K mg "divided_in" (topS 14) ["kind", "number", "by"])    : Has P wd K mg base 1 "divided_in" 3 sp_divided_in := has_def (T := T_divided_in) (d := d_divided_in) A S_divided_in (fun x hx => nomatch hx) (fun x hx => nomatch hx) .nil rfl rfl m_divided_in b_divided_in
theorem S_rest_in : FnScope N_rest_in ["kind", "number", "by"] (defScope (topS 15)) := ⟨rfl, rfl, rfl, by decide +kernel, rfl, by decide +kernel, by decide +kernel⟩
theorem m_rest_in : mB T_rest_in N_rest_in (defScope (topS 15)) d_rest_in.body (defBody (topS 15)) = true := by decide +kernel
theorem h_rest_in (A : FunAt K mg "rest_in" (topS 15) ["kind", "number", "by"])   (c_divided_in : Has P wd K mg base 1 "divided_in" 3 sp_divided_in) : Has P wd K mg base 2 "rest_in" 3 sp_rest_in := has_def (T := T_rest_in) (d := d_rest_in) A S_rest_in (fun x hx => nomatch hx) (fun x hx => nomatch hx) (.cons c_divided_in (by decide) .nil) rfl rfl m_rest_in b_rest_in
theorem S_divisor_in : FnScope N_divisor_in ["kind", "one", "other"] (defScope (topS 17)) := ⟨rfl, rfl, rfl, by decide +kernel, rfl, by decide +kernel, by decide +kernel⟩
theorem m_divisor_in : mB T_divisor_in N_divisor_in (defScope (topS 17)) d_divisor_in.body (defBody (topS 17)) = true := by decide +kernel
theorem h_divisor_in (A : FunAt K mg "divisor_in" (topS 17) ["kind", "one", "other"])   (c_rest_in : Has P wd K mg base 2 "rest_in" 3 sp_rest_in) : Has P wd K mg base 3 "divisor_in" 3 sp_divisor_in := has_def (T := T_divisor_in) (d := d_divisor_in) A S_divisor_in (fun x hx => nomatch hx) (fun x hx => nomatch hx) (.cons c_rest_in (by decide) .nil) rfl rfl m_divisor_in b_divisor_in
theorem S_divisor : FnScope N_divisor ["kind", "one", "other"] (defScope (topS 23)) := ⟨rfl, rfl, rfl, by decide +kernel, rfl, by decide +kernel, by decide +kernel⟩
theorem m_divisor : mB T_divisor N_divisor (defScope (topS 23)) d_divisor.body (defBody (topS 23)) = true := by decide +kernel
theorem h_divisor (A : FunAt K mg "divisor" (topS 23) ["kind", "one", "other"]) (z_abs : mg "abs" = none)  (c_check_pair : Has P wd K mg base 5 "check_pair" 3 sp_check_pair) (c_divisor_in : Has P wd K mg base 3 "divisor_in" 3 sp_divisor_in) : Has P wd K mg base 6 "divisor" 3 sp_divisor := has_def (T := T_divisor) (d := d_divisor) A S_divisor (List.forall_mem_cons.mpr ⟨z_abs, fun x hx => nomatch hx⟩) (fun x hx => nomatch hx) (.cons c_check_pair (by decide) (.cons c_divisor_in (by decide) .nil)) rfl rfl m_divisor b_divisor
theorem S_times_in : FnScope N_times_in ["kind", "one", "other"] (defScope (topS 13)) := ⟨rfl, rfl, rfl, by decide +kernel, rfl, by decide +kernel, by decide +kernel⟩
theorem m_times_in : mB T_times_in N_times_in (defScope (topS 13)) d_times_in.body (defBody (topS 13)) = true := by decide +kernel
theorem h_times_in (A : FunAt K mg "times_in" (topS 13) ["kind", "one", "other"]) (z_range : mg "range" = none)   : Has P wd K mg base 1 "times_in" 3 sp_times_in := has_def (T := T_times_in) (d := d_times_in) A S_times_in (List.forall_mem_cons.mpr ⟨z_range, fun x hx => nomatch hx⟩) (fun x hx => nomatch hx) .nil rfl rfl m_times_in b_times_in
theorem S_over_in : FnScope N_over_in ["kind", "number", "by"] (defScope (topS 16)) := ⟨rfl, rfl, rfl, by decide +kernel, rfl, by decide +kernel, by decide +kernel⟩
theorem m_over_in : mB T_over_in N_over_in (defScope (topS 16)) d_over_in.body (defBody (topS 16)) = true := by decide +kernel
theorem h_over_in (A : FunAt K mg "over_in" (topS 16) ["kind", "number", "by"])   (c_divided_in : Has P wd K mg base 1 "divided_in" 3 sp_divided_in) : Has P wd K mg base 2 "over_in" 3 sp_over_in := has_def (T := T_over_in) (d := d_over_in) A S_over_in (fun x hx => nomatch hx) (fun x hx => nomatch hx) (.cons c_divided_in (by decide) .nil) rfl rfl m_over_in b_over_in
theorem S_multiple_in : FnScope N_multiple_in ["kind", "one", "other"] (defScope (topS 18)) := ⟨rfl, rfl, rfl, by decide +kernel, rfl, by decide +kernel, by decide +kernel⟩
theorem m_multiple_in : mB T_multiple_in N_multiple_in (defScope (topS 18)) d_multiple_in.body (defBody (topS 18)) = true := by decide +kernel
theorem h_multiple_in (A : FunAt K mg "multiple_in" (topS 18) ["kind", "one", "other"])   (c_times_in : Has P wd K mg base 1 "times_in" 3 sp_times_in) (c_over_in : Has P wd K mg base 2 "over_in" 3 sp_over_in) (c_divisor_in : Has P wd K mg base 3 "divisor_in" 3 sp_divisor_in) : Has P wd K mg base 4 "multiple_in" 3 sp_multiple_in := has_def (T := T_multiple_in) (d := d_multiple_in) A S_multiple_in (fun x hx => nomatch hx) (fun x hx => nomatch hx) (.cons c_times_in (by decide) (.cons c_over_in (by decide) (.cons c_divisor_in (by decide) .nil))) rfl rfl m_multiple_in b_multiple_in
theorem S_multiple : FnScope N_multiple ["kind", "one", "other"] (defScope (topS 24)) := ⟨rfl, rfl, rfl, by decide +kernel, rfl, by decide +kernel, by decide +kernel⟩
theorem m_multiple : mB T_multiple N_multiple (defScope (topS 24)) d_multiple.body (defBody (topS 24)) = true := by decide +kernel
theorem h_multiple (A : FunAt K mg "multiple" (topS 24) ["kind", "one", "other"]) (z_abs : mg "abs" = none)  (c_check_pair : Has P wd K mg base 5 "check_pair" 3 sp_check_pair) (c_multiple_in : Has P wd K mg base 4 "multiple_in" 3 sp_multiple_in) : Has P wd K mg base 6 "multiple" 3 sp_multiple := has_def (T := T_multiple) (d := d_multiple) A S_multiple (List.forall_mem_cons.mpr ⟨z_abs, fun x hx => nomatch hx⟩) (fun x hx => nomatch hx) (.cons c_check_pair (by decide) (.cons c_multiple_in (by decide) .nil)) rfl rfl m_multiple b_multiple
theorem S_add_in : FnScope N_add_in ["kind", "one", "other"] (defScope (topS 10)) := ⟨rfl, rfl, rfl, by decide +kernel, rfl, by decide +kernel, by decide +kernel⟩
theorem m_add_in : mB T_add_in N_add_in (defScope (topS 10)) d_add_in.body (defBody (topS 10)) = true := by decide +kernel
theorem h_add_in (A : FunAt K mg "add_in" (topS 10) ["kind", "one", "other"])    : Has P wd K mg base 1 "add_in" 3 sp_add_in := has_def (T := T_add_in) (d := d_add_in) A S_add_in (fun x hx => nomatch hx) (fun x hx => nomatch hx) .nil rfl rfl m_add_in b_add_in
theorem S_is_divisor_paper : FnScope N_is_divisor_paper ["kind", "one", "other", "value"] (defScope (topS 27)) := ⟨rfl, rfl, rfl, by decide +kernel, rfl, by decide +kernel, by decide +kernel⟩
theorem m_is_divisor_paper : mB T_is_divisor_paper N_is_divisor_paper (defScope (topS 27)) d_is_divisor_paper.body (defBody (topS 27)) = true := by decide +kernel
theorem h_is_divisor_paper (A : FunAt K mg "is_divisor_paper" (topS 27) ["kind", "one", "other", "value"]) (z_isinstance : mg "isinstance" = none) (z_tuple : mg "tuple" = none) (z_len : mg "len" = none)  (c_check_pair : Has P wd K mg base 5 "check_pair" 3 sp_check_pair) (c_is_number_of : Has P wd K mg base 3 "is_number_of" 2 sp_is_number_of) (c_is_count : Has P wd K mg base 2 "is_count" 1 sp_is_count) (c_times_in : Has P wd K mg base 1 "times_in" 3 sp_times_in) (c_add_in : Has P wd K mg base 1 "add_in" 3 sp_add_in) : Has P wd K mg base 6 "is_divisor_paper" 4 sp_is_divisor_paper := has_def (T := T_is_divisor_paper) (d := d_is_divisor_paper) A S_is_divisor_paper (List.forall_mem_cons.mpr ⟨z_isinstance, List.forall_mem_cons.mpr ⟨z_tuple, List.forall_mem_cons.mpr ⟨z_len, fun x hx => nomatch hx⟩⟩⟩) (fun x hx => nomatch hx) (.cons c_check_pair (by decide) (.cons c_is_number_of (by decide) (.cons c_is_count (by decide) (.cons c_times_in (by decide) (.cons c_add_in (by decide) .nil))))) rfl rfl m_is_divisor_paper b_is_divisor_paper
theorem S__law_times : FnScope N__law_times ["_law_kind_there", "_law_one", "_law_other"] (defScope (topS 36)) := ⟨rfl, rfl, rfl, by decide +kernel, rfl, by decide +kernel, by decide +kernel⟩
theorem m__law_times : mB T__law_times N__law_times (defScope (topS 36)) d__law_times.body (defBody (topS 36)) = true := by decide +kernel
theorem h__law_times (A : FunAt K mg "_law_times" (topS 36) ["_law_kind_there", "_law_one", "_law_other"]) (z_range : mg "range" = none) (z_int : mg "int" = none)   : Has P wd K mg base 1 "_law_times" 3 sp__law_times := has_def (T := T__law_times) (d := d__law_times) A S__law_times (List.forall_mem_cons.mpr ⟨z_range, List.forall_mem_cons.mpr ⟨z_int, fun x hx => nomatch hx⟩⟩) (fun x hx => nomatch hx) .nil rfl rfl m__law_times b__law_times
theorem S__law_rest : FnScope N__law_rest ["_law_kind_there", "_law_number_here", "_law_by"] (defScope (topS 37)) := ⟨rfl, rfl, rfl, by decide +kernel, rfl, by decide +kernel, by decide +kernel⟩
theorem m__law_rest : mB T__law_rest N__law_rest (defScope (topS 37)) d__law_rest.body (defBody (topS 37)) = true := by decide +kernel
theorem h__law_rest (A : FunAt K mg "_law_rest" (topS 37) ["_law_kind_there", "_law_number_here", "_law_by"]) (z_int : mg "int" = none)   : Has P wd K mg base 1 "_law_rest" 3 sp__law_rest := has_def (T := T__law_rest) (d := d__law_rest) A S__law_rest (List.forall_mem_cons.mpr ⟨z_int, fun x hx => nomatch hx⟩) (fun x hx => nomatch hx) .nil rfl rfl m__law_rest b__law_rest
theorem S__law_is_multiple : FnScope N__law_is_multiple ["_law_kind_there", "_law_number_here", "_law_by"] (defScope (topS 38)) := ⟨rfl, rfl, rfl, by decide +kernel, rfl, by decide +kernel, by decide +kernel⟩
theorem m__law_is_multiple : mB T__law_is_multiple N__law_is_multiple (defScope (topS 38)) d__law_is_multiple.body (defBody (topS 38)) = true := by decide +kernel
theorem h__law_is_multiple (A : FunAt K mg "_law_is_multiple" (topS 38) ["_law_kind_there", "_law_number_here", "_law_by"])   (c__law_rest : Has P wd K mg base 1 "_law_rest" 3 sp__law_rest) : Has P wd K mg base 2 "_law_is_multiple" 3 sp__law_is_multiple := has_def (T := T__law_is_multiple) (d := d__law_is_multiple) A S__law_is_multiple (fun x hx => nomatch hx) (fun x hx => nomatch hx) (.cons c__law_rest (by decide) .nil) rfl rfl m__law_is_multiple b__law_is_multiple
theorem S__law_due : FnScope N__law_due ["_law_kind_there", "_law_one", "_law_other"] (defScope (topS 41)) := ⟨rfl, rfl, rfl, by decide +kernel, rfl, by decide +kernel, by decide +kernel⟩
theorem m__law_due : mB T__law_due N__law_due (defScope (topS 41)) d__law_due.body (defBody (topS 41)) = true := by decide +kernel
theorem h__law_due (A : FunAt K mg "_law_due" (topS 41) ["_law_kind_there", "_law_one", "_law_other"]) (z_abs : mg "abs" = none) (z_range : mg "range" = none) (z_max : mg "max" = none)  (c__law_is_multiple : Has P wd K mg base 2 "_law_is_multiple" 3 sp__law_is_multiple) (c__law_times : Has P wd K mg base 1 "_law_times" 3 sp__law_times) : Has P wd K mg base 3 "_law_due" 3 sp__law_due := has_def (T := T__law_due) (d := d__law_due) A S__law_due (List.forall_mem_cons.mpr ⟨z_abs, List.forall_mem_cons.mpr ⟨z_range, List.forall_mem_cons.mpr ⟨z_max, fun x hx => nomatch hx⟩⟩⟩) (fun x hx => nomatch hx) (.cons c__law_is_multiple (by decide) (.cons c__law_times (by decide) .nil)) rfl rfl m__law_due b__law_due
theorem S_less_in : FnScope N_less_in ["kind", "one", "other"] (defScope (topS 11)) := ⟨rfl, rfl, rfl, by decide +kernel, rfl, by decide +kernel, by decide +kernel⟩
theorem m_less_in : mB T_less_in N_less_in (defScope (topS 11)) d_less_in.body (defBody (topS 11)) = true := by decide +kernel
theorem h_less_in (A : FunAt K mg "less_in" (topS 11) ["kind", "one", "other"])    : Has P wd K mg base 1 "less_in" 3 sp_less_in := has_def (T := T_less_in) (d := d_less_in) A S_less_in (fun x hx => nomatch hx) (fun x hx => nomatch hx) .nil rfl rfl m_less_in b_less_in
theorem S_bezout_in : FnScope N_bezout_in ["kind", "one", "other"] (defScope (topS 19)) := ⟨rfl, rfl, rfl, by decide +kernel, rfl, by decide +kernel, by decide +kernel⟩
theorem m_bezout_in : mB T_bezout_in N_bezout_in (defScope (topS 19)) d_bezout_in.body (defBody (topS 19)) = true := by decide +kernel
theorem h_bezout_in (A : FunAt K mg "bezout_in" (topS 19) ["kind", "one", "other"])   (c_divided_in : Has P wd K mg base 1 "divided_in" 3 sp_divided_in) (c_less_in : Has P wd K mg base 1 "less_in" 3 sp_less_in) (c_times_in : Has P wd K mg base 1 "times_in" 3 sp_times_in) : Has P wd K mg base 2 "bezout_in" 3 sp_bezout_in := has_def (T := T_bezout_in) (d := d_bezout_in) A S_bezout_in (fun x hx => nomatch hx) (fun x hx => nomatch hx) (.cons c_divided_in (by decide) (.cons c_less_in (by decide) (.cons c_times_in (by decide) .nil))) rfl rfl m_bezout_in b_bezout_in
theorem S_turned_in : FnScope N_turned_in ["kind", "number"] (defScope (topS 12)) := ⟨rfl, rfl, rfl, by decide +kernel, rfl, by decide +kernel, by decide +kernel⟩
theorem m_turned_in : mB T_turned_in N_turned_in (defScope (topS 12)) d_turned_in.body (defBody (topS 12)) = true := by decide +kernel
theorem h_turned_in (A : FunAt K mg "turned_in" (topS 12) ["kind", "number"])    : Has P wd K mg base 1 "turned_in" 2 sp_turned_in := has_def (T := T_turned_in) (d := d_turned_in) A S_turned_in (fun x hx => nomatch hx) (fun x hx => nomatch hx) .nil rfl rfl m_turned_in b_turned_in
theorem S_with_sign : FnScope N_with_sign ["kind", "number", "like"] (defScope (topS 25)) := ⟨rfl, rfl, rfl, by decide +kernel, rfl, by decide +kernel, by decide +kernel⟩
theorem m_with_sign : mB T_with_sign N_with_sign (defScope (topS 25)) d_with_sign.body (defBody (topS 25)) = true := by decide +kernel
theorem h_with_sign (A : FunAt K mg "with_sign" (topS 25) ["kind", "number", "like"])   (c_turned_in : Has P wd K mg base 1 "turned_in" 2 sp_turned_in) : Has P wd K mg base 2 "with_sign" 3 sp_with_sign := has_def (T := T_with_sign) (d := d_with_sign) A S_with_sign (fun x hx => nomatch hx) (fun x hx => nomatch hx) (.cons c_turned_in (by decide) .nil) rfl rfl m_with_sign b_with_sign
theorem S_divisor_paper : FnScope N_divisor_paper ["kind", "one", "other"] (defScope (topS 26)) := ⟨rfl, rfl, rfl, by decide +kernel, rfl, by decide +kernel, by decide +kernel⟩
theorem m_divisor_paper : mB T_divisor_paper N_divisor_paper (defScope (topS 26)) d_divisor_paper.body (defBody (topS 26)) = true := by decide +kernel
theorem h_divisor_paper (A : FunAt K mg "divisor_paper" (topS 26) ["kind", "one", "other"]) (z_abs : mg "abs" = none) (z_zip : mg "zip" = none) (z_tuple : mg "tuple" = none)  (c_check_pair : Has P wd K mg base 5 "check_pair" 3 sp_check_pair) (c_divisor_in : Has P wd K mg base 3 "divisor_in" 3 sp_divisor_in) (c_bezout_in : Has P wd K mg base 2 "bezout_in" 3 sp_bezout_in) (c_less_in : Has P wd K mg base 1 "less_in" 3 sp_less_in) (c_times_in : Has P wd K mg base 1 "times_in" 3 sp_times_in) (c_over_in : Has P wd K mg base 2 "over_in" 3 sp_over_in) (c_with_sign : Has P wd K mg base 2 "with_sign" 3 sp_with_sign) : Has P wd K mg base 6 "divisor_paper" 3 sp_divisor_paper := has_def (T := T_divisor_paper) (d := d_divisor_paper) A S_divisor_paper (List.forall_mem_cons.mpr ⟨z_abs, List.forall_mem_cons.mpr ⟨z_zip, List.forall_mem_cons.mpr ⟨z_tuple, fun x hx => nomatch hx⟩⟩⟩) (fun x hx => nomatch hx) (.cons c_check_pair (by decide) (.cons c_divisor_in (by decide) (.cons c_bezout_in (by decide) (.cons c_less_in (by decide) (.cons c_times_in (by decide) (.cons c_over_in (by decide) (.cons c_with_sign (by decide) .nil))))))) rfl rfl m_divisor_paper b_divisor_paper
theorem S__law_hash : FnScope N__law_hash ["_law_seed", "_law_index"] (defScope (topS 29)) := ⟨rfl, rfl, rfl, by decide +kernel, rfl, by decide +kernel, by decide +kernel⟩
theorem m__law_hash : mB T__law_hash N__law_hash (defScope (topS 29)) d__law_hash.body (defBody (topS 29)) = true := by decide +kernel
theorem h__law_hash (A : FunAt K mg "_law_hash" (topS 29) ["_law_seed", "_law_index"]) (z_int : mg "int" = none)   : Has P wd K mg base 1 "_law_hash" 2 sp__law_hash := has_def (T := T__law_hash) (d := d__law_hash) A S__law_hash (List.forall_mem_cons.mpr ⟨z_int, fun x hx => nomatch hx⟩) (fun x hx => nomatch hx) .nil rfl rfl m__law_hash b__law_hash
theorem S__law_random : FnScope N__law_random ["_law_generator_here", "_law_bound"] (defScope (topS 30)) := ⟨rfl, rfl, rfl, by decide +kernel, rfl, by decide +kernel, by decide +kernel⟩
theorem m__law_random : mB T__law_random N__law_random (defScope (topS 30)) d__law_random.body (defBody (topS 30)) = true := by decide +kernel
theorem h__law_random (A : FunAt K mg "_law_random" (topS 30) ["_law_generator_here", "_law_bound"]) (z_int : mg "int" = none) (z_range : mg "range" = none)  (c__law_hash : Has P wd K mg base 1 "_law_hash" 2 sp__law_hash) : Has P wd K mg base 2 "_law_random" 2 sp__law_random := has_def (T := T__law_random) (d := d__law_random) A S__law_random (List.forall_mem_cons.mpr ⟨z_int, List.forall_mem_cons.mpr ⟨z_range, fun x hx => nomatch hx⟩⟩) (fun x hx => nomatch hx) (.cons c__law_hash (by decide) .nil) rfl rfl m__law_random b__law_random
theorem S__law_number : FnScope N__law_number ["_law_generator_here", "_law_kind_there", "_law_most"] (defScope (topS 39)) := ⟨rfl, rfl, rfl, by decide +kernel, rfl, by decide +kernel, by decide +kernel⟩
theorem m__law_number : mB T__law_number N__law_number (defScope (topS 39)) d__law_number.body (defBody (topS 39)) = true := by decide +kernel
theorem h__law_number (A : FunAt K mg "_law_number" (topS 39) ["_law_generator_here", "_law_kind_there", "_law_most"])   (c__law_random : Has P wd K mg base 2 "_law_random" 2 sp__law_random) : Has P wd K mg base 3 "_law_number" 3 sp__law_number := has_def (T := T__law_number) (d := d__law_number) A S__law_number (fun x hx => nomatch hx) (fun x hx => nomatch hx) (.cons c__law_random (by decide) .nil) rfl rfl m__law_number b__law_number
theorem S__law_add : FnScope N__law_add ["_law_kind_there", "_law_one", "_law_other"] (defScope (topS 34)) := ⟨rfl, rfl, rfl, by decide +kernel, rfl, by decide +kernel, by decide +kernel⟩
theorem m__law_add : mB T__law_add N__law_add (defScope (topS 34)) d__law_add.body (defBody (topS 34)) = true := by decide +kernel
theorem h__law_add (A : FunAt K mg "_law_add" (topS 34) ["_law_kind_there", "_law_one", "_law_other"])    : Has P wd K mg base 1 "_law_add" 3 sp__law_add := has_def (T := T__law_add) (d := d__law_add) A S__law_add (fun x hx => nomatch hx) (fun x hx => nomatch hx) .nil rfl rfl m__law_add b__law_add
theorem S__law_is_paper : FnScope N__law_is_paper ["_law_kind_there", "_law_one", "_law_other", "_law_value_there"] (defScope (topS 40)) := ⟨rfl, rfl, rfl, by decide +kernel, rfl, by decide +kernel, by decide +kernel⟩
theorem m__law_is_paper : mB T__law_is_paper N__law_is_paper (defScope (topS 40)) d__law_is_paper.body (defBody (topS 40)) = true := by decide +kernel
theorem h__law_is_paper (A : FunAt K mg "_law_is_paper" (topS 40) ["_law_kind_there", "_law_one", "_law_other", "_law_value_there"]) (z_isinstance : mg "isinstance" = none) (z_tuple : mg "tuple" = none) (z_len : mg "len" = none) (z_bool : mg "bool" = none) (z_int : mg "int" = none)  (c__law_times : Has P wd K mg base 1 "_law_times" 3 sp__law_times) (c__law_add : Has P wd K mg base 1 "_law_add" 3 sp__law_add) : Has P wd K mg base 2 "_law_is_paper" 4 sp__law_is_paper := has_def (T := T__law_is_paper) (d := d__law_is_paper) A S__law_is_paper (List.forall_mem_cons.mpr ⟨z_isinstance, List.forall_mem_cons.mpr ⟨z_tuple, List.forall_mem_cons.mpr ⟨z_len, List.forall_mem_cons.mpr ⟨z_bool, List.forall_mem_cons.mpr ⟨z_int, fun x hx => nomatch hx⟩⟩⟩⟩⟩) (fun x hx => nomatch hx) (.cons c__law_times (by decide) (.cons c__law_add (by decide) .nil)) rfl rfl m__law_is_paper b__law_is_paper
theorem S__law_less : FnScope N__law_less ["_law_kind_there", "_law_one", "_law_other"] (defScope (topS 35)) := ⟨rfl, rfl, rfl, by decide +kernel, rfl, by decide +kernel, by decide +kernel⟩
theorem m__law_less : mB T__law_less N__law_less (defScope (topS 35)) d__law_less.body (defBody (topS 35)) = true := by decide +kernel
theorem h__law_less (A : FunAt K mg "_law_less" (topS 35) ["_law_kind_there", "_law_one", "_law_other"])    : Has P wd K mg base 1 "_law_less" 3 sp__law_less := has_def (T := T__law_less) (d := d__law_less) A S__law_less (fun x hx => nomatch hx) (fun x hx => nomatch hx) .nil rfl rfl m__law_less b__law_less
theorem S__law_right : FnScope N__law_right ["_law_generator_here", "_law_kind_there"] (defScope (topS 42)) := ⟨rfl, rfl, rfl, by decide +kernel, rfl, by decide +kernel, by decide +kernel⟩
theorem m__law_right : mB T__law_right N__law_right (defScope (topS 42)) d__law_right.body (defBody (topS 42)) = true := by decide +kernel
theorem h__law_right (A : FunAt K mg "_law_right" (topS 42) ["_law_generator_here", "_law_kind_there"]) (z_repr : mg "repr" = none) (z_list : mg "list" = none) (z_range : mg "range" = none) (z_abs : mg "abs" = none)  (c__law_number : Has P wd K mg base 3 "_law_number" 3 sp__law_number) (c__law_due : Has P wd K mg base 3 "_law_due" 3 sp__law_due) (c_divisor : Has P wd K mg base 6 "divisor" 3 sp_divisor) (c_multiple : Has P wd K mg base 6 "multiple" 3 sp_multiple) (c_divisor_paper : Has P wd K mg base 6 "divisor_paper" 3 sp_divisor_paper) (c__law_is_paper : Has P wd K mg base 2 "_law_is_paper" 4 sp__law_is_paper) (c__law_add : Has P wd K mg base 1 "_law_add" 3 sp__law_add) (c__law_less : Has P wd K mg base 1 "_law_less" 3 sp__law_less) (c_is_divisor_paper : Has P wd K mg base 6 "is_divisor_paper" 4 sp_is_divisor_paper) : Has P wd K mg base 7 "_law_right" 2 sp__law_right := has_def (T := T__law_right) (d := d__law_right) A S__law_right (List.forall_mem_cons.mpr ⟨z_repr, List.forall_mem_cons.mpr ⟨z_list, List.forall_mem_cons.mpr ⟨z_range, List.forall_mem_cons.mpr ⟨z_abs, fun x hx => nomatch hx⟩⟩⟩⟩) (fun x hx => nomatch hx) (.cons c__law_number (by decide) (.cons c__law_due (by decide) (.cons c_divisor (by decide) (.cons c_multiple (by decide) (.cons c_divisor_paper (by decide) (.cons c__law_is_paper (by decide) (.cons c__law_add (by decide) (.cons c__law_less (by decide) (.cons c_is_divisor_paper (by decide) .nil))))))))) rfl rfl m__law_right b__law_right
theorem S_law : FnScope N_law ["_law_script"] (defScope (topS 43)) := ⟨rfl, rfl, rfl, by decide +kernel, rfl, by decide +kernel, by decide +kernel⟩
theorem m_law : mB T_law N_law (defScope (topS 43)) d_law.body (defBody (topS 43)) = true := by decide +kernel
theorem h_law (A : FunAt K mg "law" (topS 43) ["_law_script"]) (z_range : mg "range" = none)  (c__law_generator : Has P wd K mg base 2 "_law_generator" 2 sp__law_generator) (c__law_right : Has P wd K mg base 7 "_law_right" 2 sp__law_right) (c_divisor : Has P wd K mg base 6 "divisor" 3 sp_divisor) (c_multiple : Has P wd K mg base 6 "multiple" 3 sp_multiple) (c_divisor_paper : Has P wd K mg base 6 "divisor_paper" 3 sp_divisor_paper) (c_is_divisor_paper : Has P wd K mg base 6 "is_divisor_paper" 4 sp_is_divisor_paper) : Has P wd K mg base 8 "law" 1 sp_law := has_def (T := T_law) (d := d_law) A S_law (List.forall_mem_cons.mpr ⟨z_range, fun x hx => nomatch hx⟩) (fun x hx => nomatch hx) (.cons c__law_generator (by decide) (.cons c__law_right (by decide) (.cons c_divisor (by decide) (.cons c_multiple (by decide) (.cons c_divisor_paper (by decide) (.cons c_is_divisor_paper (by decide) .nil)))))) rfl rfl m_law b_law
end
end Gen
open PySem PySem.W PyProof.Rows
set_option maxRecDepth 100000 in
set_option maxHeartbeats 0 in
theorem PySem.Challenge.cw_hourrings_k08_whole_divisors_and_multipl_holds : PySem.Challenge.rw_hourrings_k08_whole_divisors_and_multipl.Holds := by
  w_on; o_law; k_head; (case hw => w_witness2)
  k_fill
  refine Mini.walk_by (l := PySem.Challenge.rw_hourrings_k08_whole_divisors_and_multipl) (n := 63) (k := 8) (x := "_law_script") (sp := Gen.sp_law) rfl (by decide) rfl ⟨rfl, by decide, by decide⟩ (fun w h Y => PySem.W.kIn_of Y) ?F Gen.hsp
  case F =>
    intro w mg fa h KX G hmg
    replace hmg : mg "law" = some (.ref fa) := hmg
    have z_abs := PySem.W.mg_none_of (n := "abs") KX G (by k_is)
    have z_bool := PySem.W.mg_none_of (n := "bool") KX G (by k_is)
    have z_int := PySem.W.mg_none_of (n := "int") KX G (by k_is)
    have z_isinstance := PySem.W.mg_none_of (n := "isinstance") KX G (by k_is)
    have z_len := PySem.W.mg_none_of (n := "len") KX G (by k_is)
    have z_list := PySem.W.mg_none_of (n := "list") KX G (by k_is)
    have z_max := PySem.W.mg_none_of (n := "max") KX G (by k_is)
    have z_range := PySem.W.mg_none_of (n := "range") KX G (by k_is)
    have z_repr := PySem.W.mg_none_of (n := "repr") KX G (by k_is)
    have z_str := PySem.W.mg_none_of (n := "str") KX G (by k_is)
    have z_sum := PySem.W.mg_none_of (n := "sum") KX G (by k_is)
    have z_tuple := PySem.W.mg_none_of (n := "tuple") KX G (by k_is)
    have z_zip := PySem.W.mg_none_of (n := "zip") KX G (by k_is)
    refine' (have A__law_cell := Mini.funAt (nm := "_law_cell") (st := Gen.topS 31) (ps := ["_law_script", "_law_index"]) KX G ?a ?l ?c ?k (fun _ _ _ _ _ _ us hl => match us, hl with | [_, _], _ => rfl); ?_)
    (case a => k_is); (case l => k_is); (case c => k_is); (case k => k_is)
    refine' (have A__law_generator := Mini.funAt (nm := "_law_generator") (st := Gen.topS 32) (ps := ["_law_script", "_law_index"]) KX G ?a ?l ?c ?k (fun _ _ _ _ _ _ us hl => match us, hl with | [_, _], _ => rfl); ?_)
    (case a => k_is); (case l => k_is); (case c => k_is); (case k => k_is)
    refine' (have A_is_kind := Mini.funAt (nm := "is_kind") (st := Gen.topS 7) (ps := ["value"]) KX G ?a ?l ?c ?k (fun _ _ _ _ _ _ us hl => match us, hl with | [_], _ => rfl); ?_)
    (case a => k_is); (case l => k_is); (case c => k_is); (case k => k_is)
    refine' (have A_check_kind := Mini.funAt (nm := "check_kind") (st := Gen.topS 8) (ps := ["kind"]) KX G ?a ?l ?c ?k (fun _ _ _ _ _ _ us hl => match us, hl with | [_], _ => rfl); ?_)
    (case a => k_is); (case l => k_is); (case c => k_is); (case k => k_is)
    refine' (have A_is_whole := Mini.funAt (nm := "is_whole") (st := Gen.topS 5) (ps := ["value"]) KX G ?a ?l ?c ?k (fun _ _ _ _ _ _ us hl => match us, hl with | [_], _ => rfl); ?_)
    (case a => k_is); (case l => k_is); (case c => k_is); (case k => k_is)
    refine' (have A_is_count := Mini.funAt (nm := "is_count") (st := Gen.topS 6) (ps := ["value"]) KX G ?a ?l ?c ?k (fun _ _ _ _ _ _ us hl => match us, hl with | [_], _ => rfl); ?_)
    (case a => k_is); (case l => k_is); (case c => k_is); (case k => k_is)
    refine' (have A_is_number_of := Mini.funAt (nm := "is_number_of") (st := Gen.topS 9) (ps := ["kind", "value"]) KX G ?a ?l ?c ?k (fun _ _ _ _ _ _ us hl => match us, hl with | [_, _], _ => rfl); ?_)
    (case a => k_is); (case l => k_is); (case c => k_is); (case k => k_is)
    refine' (have A_check_of := Mini.funAt (nm := "check_of") (st := Gen.topS 21) (ps := ["kind", "number"]) KX G ?a ?l ?c ?k (fun _ _ _ _ _ _ us hl => match us, hl with | [_, _], _ => rfl); ?_)
    (case a => k_is); (case l => k_is); (case c => k_is); (case k => k_is)
    refine' (have A_check_pair := Mini.funAt (nm := "check_pair") (st := Gen.topS 22) (ps := ["kind", "one", "other"]) KX G ?a ?l ?c ?k (fun _ _ _ _ _ _ us hl => match us, hl with | [_, _, _], _ => rfl); ?_)
    (case a => k_is); (case l => k_is); (case c => k_is); (case k => k_is)
    refine' (have A_divided_in := Mini.funAt (nm := "divided_in") (st := Gen.topS 14) (ps := ["kind", "number", "by"]) KX G ?a ?l ?c ?k (fun _ _ _ _ _ _ us hl => match us, hl with | [_, _, _], _ => rfl); ?_)
    (case a => k_is); (case l => k_is); (case c => k_is); (case k => k_is)
    refine' (have A_rest_in := Mini.funAt (nm := "rest_in") (st := Gen.topS 15) (ps := ["kind", "number", "by"]) KX G ?a ?l ?c ?k (fun _ _ _ _ _ _ us hl => match us, hl with | [_, _, _], _ => rfl); ?_)
    (case a => k_is); (case l => k_is); (case c => k_is); (case k => k_is)
    refine' (have A_divisor_in := Mini.funAt (nm := "divisor_in") (st := Gen.topS 17) (ps := ["kind", "one", "other"]) KX G ?a ?l ?c ?k (fun _ _ _ _ _ _ us hl => match us, hl with | [_, _, _], _ => rfl); ?_)
    (case a => k_is); (case l => k_is); (case c => k_is); (case k => k_is)
    refine' (have A_divisor := Mini.funAt (nm := "divisor") (st := Gen.topS 23) (ps := ["kind", "one", "other"]) KX G ?a ?l ?c ?k (fun _ _ _ _ _ _ us hl => match us, hl with | [_, _, _], _ => rfl); ?_)
    (case a => k_is); (case l => k_is); (case c => k_is); (case k => k_is)
    refine' (have A_times_in := Mini.funAt (nm := "times_in") (st := Gen.topS 13) (ps := ["kind", "one", "other"]) KX G ?a ?l ?c ?k (fun _ _ _ _ _ _ us hl => match us, hl with | [_, _, _], _ => rfl); ?_)
    (case a => k_is); (case l => k_is); (case c => k_is); (case k => k_is)
    refine' (have A_over_in := Mini.funAt (nm := "over_in") (st := Gen.topS 16) (ps := ["kind", "number", "by"]) KX G ?a ?l ?c ?k (fun _ _ _ _ _ _ us hl => match us, hl with | [_, _, _], _ => rfl); ?_)
    (case a => k_is); (case l => k_is); (case c => k_is); (case k => k_is)
    refine' (have A_multiple_in := Mini.funAt (nm := "multiple_in") (st := Gen.topS 18) (ps := ["kind", "one", "other"]) KX G ?a ?l ?c ?k (fun _ _ _ _ _ _ us hl => match us, hl with | [_, _, _], _ => rfl); ?_)
    (case a => k_is); (case l => k_is); (case c => k_is); (case k => k_is)
    refine' (have A_multiple := Mini.funAt (nm := "multiple") (st := Gen.topS 24) (ps := ["kind", "one", "other"]) KX G ?a ?l ?c ?k (fun _ _ _ _ _ _ us hl => match us, hl with | [_, _, _], _ => rfl); ?_)
    (case a => k_is); (case l => k_is); (case c => k_is); (case k => k_is)
    refine' (have A_add_in := Mini.funAt (nm := "add_in") (st := Gen.topS 10) (ps := ["kind", "one", "other"]) KX G ?a ?l ?c ?k (fun _ _ _ _ _ _ us hl => match us, hl with | [_, _, _], _ => rfl); ?_)
    (case a => k_is); (case l => k_is); (case c => k_is); (case k => k_is)
    refine' (have A_is_divisor_paper := Mini.funAt (nm := "is_divisor_paper") (st := Gen.topS 27) (ps := ["kind", "one", "other", "value"]) KX G ?a ?l ?c ?k (fun _ _ _ _ _ _ us hl => match us, hl with | [_, _, _, _], _ => rfl); ?_)
    (case a => k_is); (case l => k_is); (case c => k_is); (case k => k_is)
    refine' (have A__law_times := Mini.funAt (nm := "_law_times") (st := Gen.topS 36) (ps := ["_law_kind_there", "_law_one", "_law_other"]) KX G ?a ?l ?c ?k (fun _ _ _ _ _ _ us hl => match us, hl with | [_, _, _], _ => rfl); ?_)
    (case a => k_is); (case l => k_is); (case c => k_is); (case k => k_is)
    refine' (have A__law_rest := Mini.funAt (nm := "_law_rest") (st := Gen.topS 37) (ps := ["_law_kind_there", "_law_number_here", "_law_by"]) KX G ?a ?l ?c ?k (fun _ _ _ _ _ _ us hl => match us, hl with | [_, _, _], _ => rfl); ?_)
    (case a => k_is); (case l => k_is); (case c => k_is); (case k => k_is)
    refine' (have A__law_is_multiple := Mini.funAt (nm := "_law_is_multiple") (st := Gen.topS 38) (ps := ["_law_kind_there", "_law_number_here", "_law_by"]) KX G ?a ?l ?c ?k (fun _ _ _ _ _ _ us hl => match us, hl with | [_, _, _], _ => rfl); ?_)
    (case a => k_is); (case l => k_is); (case c => k_is); (case k => k_is)
    refine' (have A__law_due := Mini.funAt (nm := "_law_due") (st := Gen.topS 41) (ps := ["_law_kind_there", "_law_one", "_law_other"]) KX G ?a ?l ?c ?k (fun _ _ _ _ _ _ us hl => match us, hl with | [_, _, _], _ => rfl); ?_)
    (case a => k_is); (case l => k_is); (case c => k_is); (case k => k_is)
    refine' (have A_less_in := Mini.funAt (nm := "less_in") (st := Gen.topS 11) (ps := ["kind", "one", "other"]) KX G ?a ?l ?c ?k (fun _ _ _ _ _ _ us hl => match us, hl with | [_, _, _], _ => rfl); ?_)
    (case a => k_is); (case l => k_is); (case c => k_is); (case k => k_is)
    refine' (have A_bezout_in := Mini.funAt (nm := "bezout_in") (st := Gen.topS 19) (ps := ["kind", "one", "other"]) KX G ?a ?l ?c ?k (fun _ _ _ _ _ _ us hl => match us, hl with | [_, _, _], _ => rfl); ?_)
    (case a => k_is); (case l => k_is); (case c => k_is); (case k => k_is)
    refine' (have A_turned_in := Mini.funAt (nm := "turned_in") (st := Gen.topS 12) (ps := ["kind", "number"]) KX G ?a ?l ?c ?k (fun _ _ _ _ _ _ us hl => match us, hl with | [_, _], _ => rfl); ?_)
    (case a => k_is); (case l => k_is); (case c => k_is); (case k => k_is)
    refine' (have A_with_sign := Mini.funAt (nm := "with_sign") (st := Gen.topS 25) (ps := ["kind", "number", "like"]) KX G ?a ?l ?c ?k (fun _ _ _ _ _ _ us hl => match us, hl with | [_, _, _], _ => rfl); ?_)
    (case a => k_is); (case l => k_is); (case c => k_is); (case k => k_is)
    refine' (have A_divisor_paper := Mini.funAt (nm := "divisor_paper") (st := Gen.topS 26) (ps := ["kind", "one", "other"]) KX G ?a ?l ?c ?k (fun _ _ _ _ _ _ us hl => match us, hl with | [_, _, _], _ => rfl); ?_)
    (case a => k_is); (case l => k_is); (case c => k_is); (case k => k_is)
    refine' (have A__law_hash := Mini.funAt (nm := "_law_hash") (st := Gen.topS 29) (ps := ["_law_seed", "_law_index"]) KX G ?a ?l ?c ?k (fun _ _ _ _ _ _ us hl => match us, hl with | [_, _], _ => rfl); ?_)
    (case a => k_is); (case l => k_is); (case c => k_is); (case k => k_is)
    refine' (have A__law_random := Mini.funAt (nm := "_law_random") (st := Gen.topS 30) (ps := ["_law_generator_here", "_law_bound"]) KX G ?a ?l ?c ?k (fun _ _ _ _ _ _ us hl => match us, hl with | [_, _], _ => rfl); ?_)
    (case a => k_is); (case l => k_is); (case c => k_is); (case k => k_is)
    refine' (have A__law_number := Mini.funAt (nm := "_law_number") (st := Gen.topS 39) (ps := ["_law_generator_here", "_law_kind_there", "_law_most"]) KX G ?a ?l ?c ?k (fun _ _ _ _ _ _ us hl => match us, hl with | [_, _, _], _ => rfl); ?_)
    (case a => k_is); (case l => k_is); (case c => k_is); (case k => k_is)
    refine' (have A__law_add := Mini.funAt (nm := "_law_add") (st := Gen.topS 34) (ps := ["_law_kind_there", "_law_one", "_law_other"]) KX G ?a ?l ?c ?k (fun _ _ _ _ _ _ us hl => match us, hl with | [_, _, _], _ => rfl); ?_)
    (case a => k_is); (case l => k_is); (case c => k_is); (case k => k_is)
    refine' (have A__law_is_paper := Mini.funAt (nm := "_law_is_paper") (st := Gen.topS 40) (ps := ["_law_kind_there", "_law_one", "_law_other", "_law_value_there"]) KX G ?a ?l ?c ?k (fun _ _ _ _ _ _ us hl => match us, hl with | [_, _, _, _], _ => rfl); ?_)
    (case a => k_is); (case l => k_is); (case c => k_is); (case k => k_is)
    refine' (have A__law_less := Mini.funAt (nm := "_law_less") (st := Gen.topS 35) (ps := ["_law_kind_there", "_law_one", "_law_other"]) KX G ?a ?l ?c ?k (fun _ _ _ _ _ _ us hl => match us, hl with | [_, _, _], _ => rfl); ?_)
    (case a => k_is); (case l => k_is); (case c => k_is); (case k => k_is)
    refine' (have A__law_right := Mini.funAt (nm := "_law_right") (st := Gen.topS 42) (ps := ["_law_generator_here", "_law_kind_there"]) KX G ?a ?l ?c ?k (fun _ _ _ _ _ _ us hl => match us, hl with | [_, _], _ => rfl); ?_)
    (case a => k_is); (case l => k_is); (case c => k_is); (case k => k_is)
    refine' Mini.law_def (k := 7) (P := PySem.Challenge.rw_hourrings_k08_whole_divisors_and_multipl.prog) (wd := w) (nm := "law") (x := "_law_script") (st := Gen.topS 43) (N := Gen.N_law) (T := Gen.T_law) (d := Gen.d_law) (sp := Gen.sp_law) KX G hmg ?a ?l ?c ?k (fun _ _ _ _ _ _ _ => rfl) Gen.S_law (List.forall_mem_cons.mpr ⟨z_range, fun x hx => nomatch hx⟩) (fun x hx => nomatch hx) (fun base => ?hf) rfl rfl Gen.m_law Gen.b_law
    (case a => k_is); (case l => k_is); (case c => k_is); (case k => k_is)
    have c__law_cell := Gen.h__law_cell (P := PySem.Challenge.rw_hourrings_k08_whole_divisors_and_multipl.prog) (wd := w) (base := base) A__law_cell z_len z_sum  
    have c__law_generator := Gen.h__law_generator (P := PySem.Challenge.rw_hourrings_k08_whole_divisors_and_multipl.prog) (wd := w) (base := base) A__law_generator z_int z_max  c__law_cell
    have c_is_kind := Gen.h_is_kind (P := PySem.Challenge.rw_hourrings_k08_whole_divisors_and_multipl.prog) (wd := w) (base := base) A_is_kind z_isinstance z_str  
    have c_check_kind := Gen.h_check_kind (P := PySem.Challenge.rw_hourrings_k08_whole_divisors_and_multipl.prog) (wd := w) (base := base) A_check_kind   c_is_kind
    have c_is_whole := Gen.h_is_whole (P := PySem.Challenge.rw_hourrings_k08_whole_divisors_and_multipl.prog) (wd := w) (base := base) A_is_whole z_isinstance z_int z_bool  
    have c_is_count := Gen.h_is_count (P := PySem.Challenge.rw_hourrings_k08_whole_divisors_and_multipl.prog) (wd := w) (base := base) A_is_count   c_is_whole
    have c_is_number_of := Gen.h_is_number_of (P := PySem.Challenge.rw_hourrings_k08_whole_divisors_and_multipl.prog) (wd := w) (base := base) A_is_number_of   c_is_whole c_is_count
    have c_check_of := Gen.h_check_of (P := PySem.Challenge.rw_hourrings_k08_whole_divisors_and_multipl.prog) (wd := w) (base := base) A_check_of   c_is_number_of
    have c_check_pair := Gen.h_check_pair (P := PySem.Challenge.rw_hourrings_k08_whole_divisors_and_multipl.prog) (wd := w) (base := base) A_check_pair   c_check_kind c_check_of
    have c_divided_in := Gen.h_divided_in (P := PySem.Challenge.rw_hourrings_k08_whole_divisors_and_multipl.prog) (wd := w) (base := base) A_divided_in   
    have c_rest_in := Gen.h_rest_in (P := PySem.Challenge.rw_hourrings_k08_whole_divisors_and_multipl.prog) (wd := w) (base := base) A_rest_in   c_divided_in
    have c_divisor_in := Gen.h_divisor_in (P := PySem.Challenge.rw_hourrings_k08_whole_divisors_and_multipl.prog) (wd := w) (base := base) A_divisor_in   c_rest_in
    have c_divisor := Gen.h_divisor (P := PySem.Challenge.rw_hourrings_k08_whole_divisors_and_multipl.prog) (wd := w) (base := base) A_divisor z_abs  c_check_pair c_divisor_in
    have c_times_in := Gen.h_times_in (P := PySem.Challenge.rw_hourrings_k08_whole_divisors_and_multipl.prog) (wd := w) (base := base) A_times_in z_range  
    have c_over_in := Gen.h_over_in (P := PySem.Challenge.rw_hourrings_k08_whole_divisors_and_multipl.prog) (wd := w) (base := base) A_over_in   c_divided_in
    have c_multiple_in := Gen.h_multiple_in (P := PySem.Challenge.rw_hourrings_k08_whole_divisors_and_multipl.prog) (wd := w) (base := base) A_multiple_in   c_times_in c_over_in c_divisor_in
    have c_multiple := Gen.h_multiple (P := PySem.Challenge.rw_hourrings_k08_whole_divisors_and_multipl.prog) (wd := w) (base := base) A_multiple z_abs  c_check_pair c_multiple_in
    have c_add_in := Gen.h_add_in (P := PySem.Challenge.rw_hourrings_k08_whole_divisors_and_multipl.prog) (wd := w) (base := base) A_add_in   
    have c_is_divisor_paper := Gen.h_is_divisor_paper (P := PySem.Challenge.rw_hourrings_k08_whole_divisors_and_multipl.prog) (wd := w) (base := base) A_is_divisor_paper z_isinstance z_tuple z_len  c_check_pair c_is_number_of c_is_count c_times_in c_add_in
    have c__law_times := Gen.h__law_times (P := PySem.Challenge.rw_hourrings_k08_whole_divisors_and_multipl.prog) (wd := w) (base := base) A__law_times z_range z_int  
    have c__law_rest := Gen.h__law_rest (P := PySem.Challenge.rw_hourrings_k08_whole_divisors_and_multipl.prog) (wd := w) (base := base) A__law_rest z_int  
    have c__law_is_multiple := Gen.h__law_is_multiple (P := PySem.Challenge.rw_hourrings_k08_whole_divisors_and_multipl.prog) (wd := w) (base := base) A__law_is_multiple   c__law_rest
    have c__law_due := Gen.h__law_due (P := PySem.Challenge.rw_hourrings_k08_whole_divisors_and_multipl.prog) (wd := w) (base := base) A__law_due z_abs z_range z_max  c__law_is_multiple c__law_times
    have c_less_in := Gen.h_less_in (P := PySem.Challenge.rw_hourrings_k08_whole_divisors_and_multipl.prog) (wd := w) (base := base) A_less_in   
    have c_bezout_in := Gen.h_bezout_in (P := PySem.Challenge.rw_hourrings_k08_whole_divisors_and_multipl.prog) (wd := w) (base := base) A_bezout_in   c_divided_in c_less_in c_times_in
    have c_turned_in := Gen.h_turned_in (P := PySem.Challenge.rw_hourrings_k08_whole_divisors_and_multipl.prog) (wd := w) (base := base) A_turned_in   
    have c_with_sign := Gen.h_with_sign (P := PySem.Challenge.rw_hourrings_k08_whole_divisors_and_multipl.prog) (wd := w) (base := base) A_with_sign   c_turned_in
    have c_divisor_paper := Gen.h_divisor_paper (P := PySem.Challenge.rw_hourrings_k08_whole_divisors_and_multipl.prog) (wd := w) (base := base) A_divisor_paper z_abs z_zip z_tuple  c_check_pair c_divisor_in c_bezout_in c_less_in c_times_in c_over_in c_with_sign
    have c__law_hash := Gen.h__law_hash (P := PySem.Challenge.rw_hourrings_k08_whole_divisors_and_multipl.prog) (wd := w) (base := base) A__law_hash z_int  
    have c__law_random := Gen.h__law_random (P := PySem.Challenge.rw_hourrings_k08_whole_divisors_and_multipl.prog) (wd := w) (base := base) A__law_random z_int z_range  c__law_hash
    have c__law_number := Gen.h__law_number (P := PySem.Challenge.rw_hourrings_k08_whole_divisors_and_multipl.prog) (wd := w) (base := base) A__law_number   c__law_random
    have c__law_add := Gen.h__law_add (P := PySem.Challenge.rw_hourrings_k08_whole_divisors_and_multipl.prog) (wd := w) (base := base) A__law_add   
    have c__law_is_paper := Gen.h__law_is_paper (P := PySem.Challenge.rw_hourrings_k08_whole_divisors_and_multipl.prog) (wd := w) (base := base) A__law_is_paper z_isinstance z_tuple z_len z_bool z_int  c__law_times c__law_add
    have c__law_less := Gen.h__law_less (P := PySem.Challenge.rw_hourrings_k08_whole_divisors_and_multipl.prog) (wd := w) (base := base) A__law_less   
    have c__law_right := Gen.h__law_right (P := PySem.Challenge.rw_hourrings_k08_whole_divisors_and_multipl.prog) (wd := w) (base := base) A__law_right z_repr z_list z_range z_abs  c__law_number c__law_due c_divisor c_multiple c_divisor_paper c__law_is_paper c__law_add c__law_less c_is_divisor_paper
    exact (.cons c__law_generator (by decide) (.cons c__law_right (by decide) (.cons c_divisor (by decide) (.cons c_multiple (by decide) (.cons c_divisor_paper (by decide) (.cons c_is_divisor_paper (by decide) .nil))))))
#print axioms PySem.Challenge.cw_hourrings_k08_whole_divisors_and_multipl_holds
