import PyProof.Rows.All
import Wide.All
import OpenK.AllK
import Wide.FinOn
import HandS.ForMost
import HandS.IsInst
import HandS.TupAny
import HandS.TupMul
import HandS.Flow
import HandS.Wide
import HandS.WideBits
import HandS.Zip
import HandS.Conv
import HandS.Deep
import HandS.RaiseMore
import HandS.Style
import KE.DataCmp
import PySem.Challenge.RW_laterknown_k02_values_alike
set_option Elab.async false
set_option linter.all false
section
set_option maxRecDepth 100000
namespace Mi
open PySem L2

/-- what a value is in the mirror: scalars, tuples, frozen lists and dicts as trees; a thing that may change by its number -/
inductive D where
  | non | bl (b : Bool) | int (i : Int) | str (x : Str)
  | tup (xs : List D) | lst (xs : List D) | dic (kvs : List (Key × D))
  | ins (c : Str) (fs : List (Str × D))
  | ref (n : Nat)
  /-- the script -/
  | scr (ns : List Int)
  deriving Inhabited

inductive O where
  | lst (m : Bool) (xs : List D)
  | dic (m : Bool) (kvs : List (Key × D))
  | ins (m : Bool) (c : Str) (fs : List (Str × D))
def O.mut : O → Bool
  | .lst m _ => m
  | .dic m _ => m
  | .ins m _ _ => m
abbrev Sto := List O
abbrev Env := List (Option D)
structure Xn where
  c : Str
  fs : List (Str × D)

inductive R (α : Type) where
  | ok (a : α) (s : Sto) | ex (x : Xn) (s : Sto) | no
def R.bind {α β : Type} (r : R α) (g : α → Sto → R β) : R β := match r with
  | .ok a s => g a s
  | .ex x s => .ex x s
  | .no => .no
@[simp] theorem bind_ok {α β : Type} (a : α) (s : Sto) (g : α → Sto → R β) : (R.ok a s).bind g = g a s := rfl
@[simp] theorem bind_ex {α β : Type} (x : Xn) (s : Sto) (g : α → Sto → R β) : (R.ex x s : R α).bind g = .ex x s := rfl
@[simp] theorem bind_no {α β : Type} (g : α → Sto → R β) : (R.no : R α).bind g = .no := rfl

abbrev ET := Env → Sto → R D
abbrev BT := Env → Sto → R Bool
abbrev AT := Env → Sto → R (List D)
inductive Fl where
  | nx (e : Env) | rt (d : D) | bk (e : Env) | ct (e : Env)
abbrev ST := Env → Sto → R Fl

/-! ### the relation to the abstract heap -/
structure Wd where
  K : PySem.W.Frag
  mg : Str → Option Value

/-- gs: lists that are being made and that no name knows yet -/
structure Ct where
  p : List Addr
  S : Sto
  gs : List Addr
/-- the addresses that may be written -/
def Lv (c : Ct) (a : Addr) : Prop := (∃ (n : Nat) (o : O), c.p[n]? = some a ∧ c.S[n]? = some o ∧ o.mut = true) ∨ a ∈ c.gs

/-- a dict may be locked and unlocked -/
def unf : HO → HO
  | .frz _ u => u
  | o => o
def isDic : HO → Bool
  | .dK _ => true
  | .dT _ => true
  | _ => false
def Sm (o o' : HO) : Prop := o' = o ∨ (isDic (unf o) = true ∧ unf o' = unf o)
theorem Sm.refl (o : HO) : Sm o o := .inl rfl
theorem Sm.trans {o o1 o2 : HO} (a : Sm o o1) (b : Sm o1 o2) : Sm o o2 := by
  rcases a with rfl | ⟨a1, a2⟩
  · exact b
  · rcases b with rfl | ⟨b1, b2⟩
    · exact .inr ⟨a1, a2⟩
    · exact .inr ⟨a1, b2.trans a2⟩
/-- read, never written: tracked and not writable, or of the written part -/
def FzL (w : Wd) (H : Hp) (c : Ct) (a : Addr) (vs : List V) : Prop := H a = some (.lst vs) ∧ ¬ Lv c a
def FzT (w : Wd) (H : Hp) (c : Ct) (a : Addr) (vs : List V) : Prop := (Rd H a (.tup vs) ∧ ¬ Lv c a) ∨
  ∃ (o : Obj) (its : Array Value) (n : Nat), w.K.lookup a = some o ∧ o.cls = .type "tuple" ∧ o.data = .seq its n ∧ its.size ≤ sizeLine ∧ Vals vs its.toList
/-- the script: read alone -/
def FzS (w : Wd) (H : Hp) (c : Ct) (a : Addr) (vs : List V) : Prop := (Rd H a (.lst vs) ∧ ¬ Lv c a) ∨
  ∃ (o : Obj) (its : Array Value) (n : Nat), w.K.lookup a = some o ∧ o.cls = .type "list" ∧ o.dict = none ∧ o.data = .seq its n ∧ its.size ≤ sizeLine ∧ Vals vs its.toList
theorem FzS.sq {w : Wd} {H : Hp} {c : Ct} {a : Addr} {vs : List V} (h : FzS w H c a vs) : SqL w.K H a vs := h.imp (·.1) id
theorem FzL.sq {w : Wd} {H : Hp} {c : Ct} {a : Addr} {vs : List V} (h : FzL w H c a vs) : SqL w.K H a vs := .inl (.inl h.1)
theorem FzT.sq {w : Wd} {H : Hp} {c : Ct} {a : Addr} {vs : List V} (h : FzT w H c a vs) : SqT w.K H a vs := h.imp (·.1) id
mutual
inductive RelD (w : Wd) (H : Hp) (c : Ct) : D → V → Prop
  | non : RelD w H c .non .non
  | bl (b : Bool) : RelD w H c (.bl b) (.bl b)
  | int (i : Int) : RelD w H c (.int i) (.int i)
  | str (x : Str) : x.length ≤ sizeLine → RelD w H c (.str x) (.str x)
  | tup {a : Addr} {xs : List D} {vs : List V} : FzT w H c a vs → RelDs w H c xs vs → RelD w H c (.tup xs) (.ref a)
  | lst {a : Addr} {xs : List D} {vs : List V} : FzL w H c a vs → RelDs w H c xs vs → RelD w H c (.lst xs) (.ref a)
  | dic {a : Addr} {kvs : List (Key × D)} {vs : List V} : Rd H a (.dK ((kvs.map (·.1)).zip vs)) → ¬ Lv c a → RelDs w H c (kvs.map (·.2)) vs → RelD w H c (.dic kvs) (.ref a)
  | ins {a C dx : Addr} {nm : Str} {fs : List (Str × D)} {vs : List V} : H a = some (.ins C dx ((fs.map (·.1)).zip vs)) → w.mg nm = some (.ref C) → ¬ Lv c a → RelDs w H c (fs.map (·.2)) vs → RelD w H c (.ins nm fs) (.ref a)
  | ref {n : Nat} {a : Addr} : c.p[n]? = some a → RelD w H c (.ref n) (.ref a)
  | scr {a : Addr} {ns : List Int} : FzS w H c a (ns.map V.int) → RelD w H c (.scr ns) (.ref a)
inductive RelDs (w : Wd) (H : Hp) (c : Ct) : List D → List V → Prop
  | nil : RelDs w H c [] []
  | cons {d : D} {ds : List D} {v : V} {vs : List V} : RelD w H c d v → RelDs w H c ds vs → RelDs w H c (d :: ds) (v :: vs)
end
/-- what stands at a numbered thing's address -/
inductive RelO (w : Wd) (H : Hp) (c : Ct) : O → HO → Prop
  | lst {m : Bool} {xs : List D} {vs : List V} : RelDs w H c xs vs → RelO w H c (.lst m xs) (.lst vs)
  | dic {m : Bool} {kvs : List (Key × D)} {vs : List V} {ho : HO} : RelDs w H c (kvs.map (·.2)) vs → unf ho = .dK ((kvs.map (·.1)).zip vs) → (m = true → ho = .dK ((kvs.map (·.1)).zip vs)) → RelO w H c (.dic m kvs) ho
  | ins {m : Bool} {C dx : Addr} {nm : Str} {fs : List (Str × D)} {vs : List V} : w.mg nm = some (.ref C) → RelDs w H c (fs.map (·.2)) vs → RelO w H c (.ins m nm fs) (.ins C dx ((fs.map (·.1)).zip vs))

structure Good (w : Wd) (H : Hp) (c : Ct) : Prop where
  len : c.p.length = c.S.length
  inj : ∀ (n m : Nat) (a : Addr), c.p[n]? = some a → c.p[m]? = some a → n = m
  obj : ∀ (n : Nat) (a : Addr) (o : O), c.p[n]? = some a → c.S[n]? = some o → ∃ ho, H a = some ho ∧ RelO w H c o ho
  gst : ∀ a ∈ c.gs, (∃ o, H a = some o) ∧ a ∉ c.p

structure Tr (c : Ct) (H : Hp) (c' : Ct) (H' : Hp) : Prop where
  p : ∀ (n : Nat) (a : Addr), c.p[n]? = some a → c'.p[n]? = some a
  lv : ∀ a, Lv c' a → Lv c a ∨ H a = none
  keep : ∀ a o, H a = some o → ¬ Lv c a → ∃ o', H' a = some o' ∧ Sm o o'
structure Ext (c : Ct) (H : Hp) (c' : Ct) (H' : Hp) : Prop extends Tr c H c' H' where
  gs : c'.gs = c.gs
  gk : ∀ a ∈ c.gs, H' a = H a

theorem Tr.trans {c c1 c2 : Ct} {H H1 H2 : Hp} (a : Tr c H c1 H1) (b : Tr c1 H1 c2 H2) : Tr c H c2 H2 := by
  refine ⟨fun n x h => b.p n x (a.p n x h), fun x h => ?_, fun x o h n => ?_⟩
  · rcases b.lv x h with h | h
    · exact a.lv x h
    · by_cases l : Lv c x
      · exact .inl l
      · cases q : H x with
        | none => exact .inr rfl
        | some o =>
          obtain ⟨o', h', _⟩ := a.keep x o q l
          rw [h'] at h
          cases h
  · obtain ⟨o1, h1, m1⟩ := a.keep x o h n
    obtain ⟨o2, h2, m2⟩ := b.keep x o1 h1 fun l => by
      rcases a.lv x l with l | l
      · exact n l
      · rw [h] at l; cases l
    exact ⟨o2, h2, m1.trans m2⟩
theorem Ext.refl (c : Ct) (H : Hp) : Ext c H c H := ⟨⟨fun _ _ h => h, fun _ h => .inl h, fun _ o h _ => ⟨o, h, .refl o⟩⟩, rfl, fun _ _ => rfl⟩
theorem Ext.trans {c c1 c2 : Ct} {H H1 H2 : Hp} (a : Ext c H c1 H1) (b : Ext c1 H1 c2 H2) : Ext c H c2 H2 :=
  ⟨a.toTr.trans b.toTr, b.gs.trans a.gs, fun x h => (b.gk x (by rw [a.gs]; exact h)).trans (a.gk x h)⟩
/-- what is not to be written stays so -/
theorem Tr.nlv {c c' : Ct} {H H' : Hp} (e : Tr c H c' H') {a : Addr} {o : HO} (h : H a = some o) (n : ¬ Lv c a) : ¬ Lv c' a := fun l => by
  rcases e.lv a l with l | l
  · exact n l
  · rw [h] at l; cases l
theorem rd_of_unf {H : Hp} {a : Addr} {o u : HO} (h : H a = some o) (e : unf o = u) (hu : unf u = u) : Rd H a u := by
  cases o with
  | frz ob z => exact .inr ⟨ob, by rw [h]; exact congrArg some (congrArg _ e)⟩
  | _ => exact .inl (h.trans (congrArg some e))
theorem Rd.unf {H : Hp} {a : Addr} {u : HO} (h : Rd H a u) (hu : Mi.unf u = u) : ∃ o, H a = some o ∧ Mi.unf o = u := by
  rcases h with h | ⟨ob, h⟩
  · exact ⟨_, h, hu⟩
  · exact ⟨_, h, rfl⟩
theorem Tr.rd {c c' : Ct} {H H' : Hp} (e : Tr c H c' H') {a : Addr} {u : HO} (hu : unf u = u) (h : Rd H a u) (n : ¬ Lv c a) : Rd H' a u ∧ ¬ Lv c' a := by
  obtain ⟨o, h, q⟩ := Rd.unf h hu
  obtain ⟨o', h', m⟩ := e.keep a o h n
  refine ⟨rd_of_unf h' ?_ hu, e.nlv h n⟩
  rcases m with rfl | ⟨_, m⟩
  · exact q
  · exact m.trans q
/-- what is no dict stays to the sign -/
theorem Tr.same {c c' : Ct} {H H' : Hp} (e : Tr c H c' H') {a : Addr} {o : HO} (ho : isDic (unf o) = false) (h : H a = some o) (n : ¬ Lv c a) : H' a = some o := by
  obtain ⟨o', h', m⟩ := e.keep a o h n
  rcases m with rfl | ⟨m, _⟩
  · exact h'
  · rw [ho] at m; cases m
theorem FzL.tr {w : Wd} {c c' : Ct} {H H' : Hp} {a : Addr} {vs : List V} (e : Tr c H c' H') (h : FzL w H c a vs) : FzL w H' c' a vs := ⟨e.same rfl h.1 h.2, e.nlv h.1 h.2⟩
theorem FzT.tr {w : Wd} {c c' : Ct} {H H' : Hp} {a : Addr} {vs : List V} (e : Tr c H c' H') (h : FzT w H c a vs) : FzT w H' c' a vs := h.imp (fun z => e.rd rfl z.1 z.2) id
section
variable {w : Wd} {c c' : Ct} {H H' : Hp}
mutual
theorem RelD.tr (e : Tr c H c' H') : ∀ {d : D} {v : V}, RelD w H c d v → RelD w H' c' d v
  | _, _, .non => .non
  | _, _, .bl b => .bl b
  | _, _, .int i => .int i
  | _, _, .str x h => .str x h
  | _, _, .tup h r => .tup (h.tr e) (RelDs.tr e r)
  | _, _, .lst h r => .lst (h.tr e) (RelDs.tr e r)
  | _, _, .dic h n r => .dic (e.rd rfl h n).1 (e.rd rfl h n).2 (RelDs.tr e r)
  | _, _, .ins h m n r => .ins (e.same rfl h n) m (e.nlv h n) (RelDs.tr e r)
  | _, _, .ref h => .ref (e.p _ _ h)
  | _, _, .scr h => .scr (h.imp (fun z => e.rd rfl z.1 z.2) id)
theorem RelDs.tr (e : Tr c H c' H') : ∀ {ds : List D} {vs : List V}, RelDs w H c ds vs → RelDs w H' c' ds vs
  | _, _, .nil => .nil
  | _, _, .cons r t => .cons (RelD.tr e r) (RelDs.tr e t)
end
theorem RelO.tr (e : Tr c H c' H') {o : O} {ho : HO} (h : RelO w H c o ho) : RelO w H' c' o ho := by
  cases h with
  | lst r => exact .lst (r.tr e)
  | dic r h1 h2 => exact .dic (r.tr e) h1 h2
  | ins m r => exact .ins m (r.tr e)
theorem RelD.ext (e : Ext c H c' H') {d : D} {v : V} (h : RelD w H c d v) : RelD w H' c' d v := h.tr e.toTr
theorem RelDs.ext (e : Ext c H c' H') {d : List D} {v : List V} (h : RelDs w H c d v) : RelDs w H' c' d v := h.tr e.toTr
theorem RelO.ext (e : Ext c H c' H') {o : O} {ho : HO} (h : RelO w H c o ho) : RelO w H' c' o ho := h.tr e.toTr
theorem RelDs.length {ds : List D} {vs : List V} (h : RelDs w H c ds vs) : ds.length = vs.length := by
  induction ds generalizing vs with
  | nil => cases h; rfl
  | cons d ds ih => cases h with | cons r t => simp [ih t]
theorem RelDs.get {ds : List D} {vs : List V} {i : Nat} {d : D} (h : RelDs w H c ds vs) (e : ds[i]? = some d) : ∃ v, vs[i]? = some v ∧ RelD w H c d v := by
  induction ds generalizing vs i with
  | nil => simp at e
  | cons x ds ih =>
    cases h with
    | cons r t =>
      cases i with
      | zero => simp at e; subst e; exact ⟨_, rfl, r⟩
      | succ i =>
        obtain ⟨v, h1, h2⟩ := ih t (i := i) (by simpa using e)
        exact ⟨v, by simpa using h1, h2⟩
theorem RelDs.getV {ds : List D} {vs : List V} {i : Nat} {v : V} (h : RelDs w H c ds vs) (e : vs[i]? = some v) : ∃ d, ds[i]? = some d ∧ RelD w H c d v := by
  induction ds generalizing vs i with
  | nil => cases h; simp at e
  | cons x ds ih =>
    cases h with
    | cons r t =>
      cases i with
      | zero => simp at e; subst e; exact ⟨_, rfl, r⟩
      | succ i =>
        obtain ⟨v, h1, h2⟩ := ih t (i := i) (by simpa using e)
        exact ⟨v, by simpa using h1, h2⟩
theorem RelDs.append {ds es : List D} {vs us : List V} (h : RelDs w H c ds vs) (k : RelDs w H c es us) : RelDs w H c (ds ++ es) (vs ++ us) := by
  induction ds generalizing vs with
  | nil => cases h; exact k
  | cons d ds ih => cases h with | cons r t => exact .cons r (ih t)
theorem RelDs.set {ds : List D} {vs : List V} {i : Nat} {d : D} {v : V} (h : RelDs w H c ds vs) (r : RelD w H c d v) : RelDs w H c (ds.set i d) (vs.set i v) := by
  induction ds generalizing vs i with
  | nil => cases h; exact .nil
  | cons x ds ih =>
    cases h with
    | cons r0 t =>
      cases i with
      | zero => exact .cons r t
      | succ i => exact .cons r0 (ih t)
theorem RelDs.take {ds : List D} {vs : List V} (n : Nat) (h : RelDs w H c ds vs) : RelDs w H c (ds.take n) (vs.take n) := by
  induction ds generalizing vs n with
  | nil => cases h; simp; exact .nil
  | cons d ds ih =>
    cases h with
    | cons r t =>
      cases n with
      | zero => exact .nil
      | succ n => exact .cons r (ih n t)
theorem RelDs.drop {ds : List D} {vs : List V} (n : Nat) (h : RelDs w H c ds vs) : RelDs w H c (ds.drop n) (vs.drop n) := by
  induction ds generalizing vs n with
  | nil => cases h; simp; exact .nil
  | cons d ds ih =>
    cases h with
    | cons r t =>
      cases n with
      | zero => exact .cons r t
      | succ n => exact ih n t
theorem RelDs.reverse {ds : List D} {vs : List V} (h : RelDs w H c ds vs) : RelDs w H c ds.reverse vs.reverse := by
  induction ds generalizing vs with
  | nil => cases h; exact .nil
  | cons d ds ih =>
    cases h with
    | cons r t => simp only [List.reverse_cons]; exact (ih t).append (.cons r .nil)
theorem RelDs.eraseIdx {ds : List D} {vs : List V} (n : Nat) (h : RelDs w H c ds vs) : RelDs w H c (ds.eraseIdx n) (vs.eraseIdx n) := by
  induction ds generalizing vs n with
  | nil => cases h; exact .nil
  | cons d ds ih =>
    cases h with
    | cons r t =>
      cases n with
      | zero => exact t
      | succ n => exact .cons r (ih n t)

/-! ### growing and writing -/
theorem Good.gne {a b : Addr} (g : Good w H c) (h : H a = none) (hb : b ∈ c.gs) : b ≠ a := fun z => by
  subst z
  obtain ⟨⟨o, q⟩, _⟩ := g.gst b hb
  rw [h] at q; cases q
theorem Ext.fresh {a : Addr} {o : HO} (g : Good w H c) (h : H a = none) : Ext c H c (upd H a o) :=
  ⟨⟨fun _ _ h => h, fun _ h => .inl h, fun b u e _ => ⟨u, by rw [upd_ne (ne_of_none e h)]; exact e, .refl u⟩⟩, rfl, fun b hb => upd_ne (g.gne h hb)⟩
theorem Good.fresh {a : Addr} {o : HO} (g : Good w H c) (h : H a = none) : Good w (upd H a o) c :=
  ⟨g.len, g.inj, fun n b u e1 e2 => by
    obtain ⟨ho, q, r⟩ := g.obj n b u e1 e2
    exact ⟨ho, by rw [upd_ne (ne_of_none q h)]; exact q, r.ext (Ext.fresh g h)⟩, fun b hb => ⟨by rw [upd_ne (g.gne h hb)]; exact (g.gst b hb).1, (g.gst b hb).2⟩⟩
/-- a new thing that may change -/
def Ct.push (c : Ct) (a : Addr) (o : O) : Ct := ⟨c.p ++ [a], c.S ++ [o], c.gs⟩
theorem Good.lt (g : Good w H c) {n : Nat} {a : Addr} (h : c.p[n]? = some a) : n < c.S.length := by
  rw [← g.len]; exact (List.getElem?_eq_some_iff.mp h).1
theorem Good.ne {a : Addr} (g : Good w H c) (h : H a = none) {n : Nat} {b : Addr} (e : c.p[n]? = some b) : b ≠ a := fun z => by
  subst z
  obtain ⟨ho, q, _⟩ := g.obj n b _ e (List.getElem?_eq_getElem (g.lt e))
  rw [h] at q; cases q
theorem Ext.pushed {a : Addr} {o : O} {ho : HO} (g : Good w H c) (h : H a = none) : Ext c H (c.push a o) (upd H a ho) := by
  refine ⟨⟨fun n b e => ?_, fun b lb => ?_, fun b u e _ => ⟨u, by rw [upd_ne (ne_of_none e h)]; exact e, .refl u⟩⟩, rfl, fun b hb => upd_ne (g.gne h hb)⟩
  · show (c.p ++ [a])[n]? = some b
    rw [List.getElem?_append_left (List.getElem?_eq_some_iff.mp e).1]; exact e
  · rcases lb with ⟨n, u, e1, e2, e3⟩ | lb
    case inr => exact .inl (.inr lb)
    have e1 : (c.p ++ [a])[n]? = some b := e1
    have e2 : (c.S ++ [o])[n]? = some u := e2
    by_cases l : n < c.p.length
    · rw [List.getElem?_append_left l] at e1
      rw [List.getElem?_append_left (by rw [← g.len]; exact l)] at e2
      exact .inl (.inl ⟨n, u, e1, e2, e3⟩)
    · rw [List.getElem?_append_right (by omega)] at e1
      have z : n - c.p.length = 0 := by
        cases q : n - c.p.length with
        | zero => rfl
        | succ m => rw [q] at e1; simp at e1
      rw [z] at e1
      simp at e1
      subst e1
      exact .inr h
theorem Good.pushed {a : Addr} {o : O} {ho : HO} (g : Good w H c) (h : H a = none) (r : RelO w (upd H a ho) (c.push a o) o ho) : Good w (upd H a ho) (c.push a o) := by
  have ex : Ext c H (c.push a o) (upd H a ho) := Ext.pushed g h
  have dec : ∀ (n : Nat) (b : Addr), (c.p ++ [a])[n]? = some b → c.p[n]? = some b ∨ (n = c.p.length ∧ b = a) := fun n b e => by
    by_cases l : n < c.p.length
    · rw [List.getElem?_append_left l] at e; exact .inl e
    · rw [List.getElem?_append_right (by omega)] at e
      cases q : n - c.p.length with
      | zero => rw [q] at e; simp at e; exact .inr ⟨by omega, e.symm⟩
      | succ m => rw [q] at e; simp at e
  refine ⟨by simp [Ct.push, g.len], fun n m b e1 e2 => ?_, fun n b u e1 e2 => ?_, fun b hb => ⟨by rw [upd_ne (g.gne h hb)]; exact (g.gst b hb).1, fun z => ?_⟩⟩
  · rcases dec n b e1 with e1 | ⟨e1, z1⟩
    · rcases dec m b e2 with e2 | ⟨e2, z2⟩
      · exact g.inj n m b e1 e2
      · exact absurd z2 (g.ne h e1)
    · rcases dec m b e2 with e2 | ⟨e2, z2⟩
      · exact absurd z1 (g.ne h e2)
      · rw [e1, e2]
  · have e2 : (c.S ++ [o])[n]? = some u := e2
    rcases dec n b e1 with e1 | ⟨e1, z1⟩
    · rw [List.getElem?_append_left (g.lt e1)] at e2
      obtain ⟨ho', q, r'⟩ := g.obj n b u e1 e2
      exact ⟨ho', by rw [upd_ne (ne_of_none q h)]; exact q, r'.ext ex⟩
    · rw [e1, g.len] at e2
      simp at e2
      subst e2; subst z1
      exact ⟨ho, upd_same, r⟩
  · rcases List.mem_append.mp (show b ∈ c.p ++ [a] from z) with z | z
    · exact (g.gst b hb).2 z
    · exact g.gne h hb (by simpa using z)
/-- a thing is written -/
def Ct.put (c : Ct) (n : Nat) (o : O) : Ct := ⟨c.p, c.S.set n o, c.gs⟩
theorem Ext.wrote {n : Nat} {a : Addr} {o o' : O} {ho : HO} (g : Good w H c) (e : c.p[n]? = some a) (eo : c.S[n]? = some o) (m : o.mut = true) : Ext c H (c.put n o') (upd H a ho) := by
  have la : Lv c a := .inl ⟨n, o, e, eo, m⟩
  refine ⟨⟨fun _ _ h => h, fun b lb => ?_, fun b u q nl => ?_⟩, rfl, fun b hb => upd_ne fun z => (g.gst b hb).2 (by rw [z]; exact List.mem_of_getElem? e)⟩
  · rcases lb with ⟨k, u, e1, e2, e3⟩ | lb
    case inr => exact .inl (.inr lb)
    have e1 : c.p[k]? = some b := e1
    have e2 : (c.S.set n o')[k]? = some u := e2
    by_cases q : k = n
    · subst q
      obtain rfl : a = b := Option.some.inj (e.symm.trans e1)
      exact .inl la
    · rw [List.getElem?_set_ne (Ne.symm q)] at e2
      exact .inl (.inl ⟨k, u, e1, e2, e3⟩)
  · have : b ≠ a := fun z => by subst z; exact nl la
    exact ⟨u, by rw [upd_ne this]; exact q, .refl u⟩
theorem Good.wrote {n : Nat} {a : Addr} {o o' : O} {ho : HO} (g : Good w H c) (e : c.p[n]? = some a) (eo : c.S[n]? = some o) (m : o.mut = true) (r : RelO w (upd H a ho) (c.put n o') o' ho) : Good w (upd H a ho) (c.put n o') := by
  have ex : Ext c H (c.put n o') (upd H a ho) := Ext.wrote g e eo m
  refine ⟨by simp [Ct.put, g.len], g.inj, fun k b u e1 e2 => ?_, fun b hb => ⟨?_, (g.gst b hb).2⟩⟩
  case refine_2 => rw [upd_ne fun z => (g.gst b hb).2 (by rw [z]; exact List.mem_of_getElem? e)]; exact (g.gst b hb).1
  have e1 : c.p[k]? = some b := e1
  have e2 : (c.S.set n o')[k]? = some u := e2
  by_cases q : k = n
  · subst q
    obtain rfl : a = b := Option.some.inj (e.symm.trans e1)
    rw [List.getElem?_set_self (g.lt e)] at e2
    cases e2
    exact ⟨ho, upd_same, r⟩
  · rw [List.getElem?_set_ne (Ne.symm q)] at e2
    obtain ⟨ho', q', r'⟩ := g.obj k b u e1 e2
    have : b ≠ a := fun z => by subst z; exact q (g.inj k n b e1 e)
    exact ⟨ho', by rw [upd_ne this]; exact q', r'.ext ex⟩
end

/-! ### a list that is being made -/
section
variable {w : Wd} {c : Ct} {H : Hp} {a : Addr}
def Ct.gh (c : Ct) (a : Addr) : Ct := ⟨c.p, c.S, a :: c.gs⟩
def Ct.ug (c : Ct) (l : List Addr) : Ct := ⟨c.p, c.S, l⟩
theorem Tr.gh {o : HO} (h : H a = none) : Tr c H (c.gh a) (upd H a o) := by
  refine ⟨fun _ _ h => h, fun b lb => ?_, fun b u e _ => ⟨u, by rw [upd_ne (ne_of_none e h)]; exact e, .refl u⟩⟩
  rcases lb with lb | lb
  · exact .inl (.inl lb)
  · rcases List.mem_cons.mp (show b ∈ a :: c.gs from lb) with rfl | lb
    · exact .inr h
    · exact .inl (.inr lb)
theorem Good.gh {o : HO} (g : Good w H c) (h : H a = none) : Good w (upd H a o) (c.gh a) := by
  refine ⟨g.len, g.inj, fun n b u e1 e2 => ?_, fun b hb => ?_⟩
  · obtain ⟨ho, q, r⟩ := g.obj n b u e1 e2
    exact ⟨ho, by rw [upd_ne (ne_of_none q h)]; exact q, r.tr (Tr.gh h)⟩
  · rcases List.mem_cons.mp (show b ∈ a :: c.gs from hb) with rfl | hb
    · refine ⟨⟨o, upd_same⟩, fun z => ?_⟩
      obtain ⟨n, hn⟩ := List.getElem?_of_mem (show b ∈ c.p from z)
      exact g.ne h hn rfl
    · exact ⟨by rw [upd_ne (g.gne h hb)]; exact (g.gst b hb).1, (g.gst b hb).2⟩
/-- the list that is being made grows -/
theorem Tr.grow {o : HO} (h : a ∈ c.gs) : Tr c H c (upd H a o) := by
  refine ⟨fun _ _ h => h, fun b lb => .inl lb, fun b u e n => ⟨u, ?_, .refl u⟩⟩
  rw [upd_ne (fun z => n (by rw [z]; exact .inr h))]; exact e
theorem Good.grow {o : HO} (g : Good w H c) (h : a ∈ c.gs) : Good w (upd H a o) c := by
  refine ⟨g.len, g.inj, fun n b u e1 e2 => ?_, fun b hb => ⟨?_, (g.gst b hb).2⟩⟩
  · obtain ⟨ho, q, r⟩ := g.obj n b u e1 e2
    refine ⟨ho, ?_, r.tr (Tr.grow h)⟩
    rw [upd_ne (fun z => (g.gst a h).2 (by rw [← z]; exact List.mem_of_getElem? e1))]; exact q
  · by_cases z : b = a
    · rw [z]; exact ⟨o, upd_same⟩
    · rw [upd_ne z]; exact (g.gst b hb).1
/-- .. and is made -/
theorem Tr.ug {l : List Addr} (h : ∀ b ∈ l, b ∈ c.gs) : Tr c H (c.ug l) H :=
  ⟨fun _ _ h => h, fun b lb => .inl (lb.imp id (h b)), fun b u e _ => ⟨u, e, .refl u⟩⟩
theorem Good.ug {l : List Addr} (g : Good w H c) (h : ∀ b ∈ l, b ∈ c.gs) : Good w H (c.ug l) :=
  ⟨g.len, g.inj, fun n b u e1 e2 => let ⟨ho, q, r⟩ := g.obj n b u e1 e2; ⟨ho, q, r.tr (Tr.ug h)⟩, fun b hb => g.gst b (h b hb)⟩
end

/-! ### environments -/
structure RelEnv (w : Wd) (H : Hp) (c : Ct) (env : Env) (st : L2.St) : Prop where
  len : env.length = st.length
  get : ∀ (i : Nat) (d : D), env[i]? = some (some d) → ∃ v, st[i]? = some (some v) ∧ RelD w H c d v
section
variable {w : Wd} {c c' : Ct} {H H' : Hp} {env : Env} {st : L2.St}
theorem RelEnv.tr (e : Tr c H c' H') (r : RelEnv w H c env st) : RelEnv w H' c' env st :=
  ⟨r.len, fun i d h => let ⟨v, a, b⟩ := r.get i d h; ⟨v, a, b.tr e⟩⟩
theorem RelEnv.ext (e : Ext c H c' H') (r : RelEnv w H c env st) : RelEnv w H' c' env st := r.tr e.toTr
theorem RelEnv.set {i : Nat} {d : D} {v : V} (r : RelEnv w H c env st) (h : RelD w H c d v) : RelEnv w H c (env.set i (some d)) (st.set i (some v)) := by
  refine ⟨by simp [r.len], fun j x e => ?_⟩
  by_cases q : j = i
  · subst q
    have l : j < env.length := by
      have := (List.getElem?_eq_some_iff.mp e).1
      simpa using this
    rw [List.getElem?_set_self l] at e
    cases e
    exact ⟨v, List.getElem?_set_self (by rw [← r.len]; exact l), h⟩
  · rw [List.getElem?_set_ne (Ne.symm q)] at e ⊢
    exact r.get j x e
end
end Mi
end
section
set_option maxRecDepth 100000
namespace Mi
open PySem L2
/-- what is wanted behind a run -/
def RelX (w : Wd) (H : Hp) (c : Ct) (x : Xn) (cls : Value) (dd : Option Addr) : Prop := ∃ C, cls = .ref C ∧ w.mg x.c = some (.ref C) ∧
  ((x.fs = [] ∧ dd = none) ∨ ∃ d vs, dd = some d ∧ H d = some (.xd ((x.fs.map (·.1)).zip vs)) ∧ RelDs w H c (x.fs.map (·.2)) vs)
def Fin {α : Type} (w : Wd) (E : XK) (c : Ct) (H : Hp) (r : R α) (k : α → Ct → Hp → Prop) : Prop := match r with
  | .ok a S => ∀ c' H', Ext c H c' H' → Good w H' c' → c'.S = S → k a c' H'
  | .ex x S => ∀ c' H' cls dd, Ext c H c' H' → Good w H' c' → c'.S = S → RelX w H' c' x cls dd → E cls dd H'
  | .no => False
section
variable {α β : Type} {w : Wd} {E : XK} {c : Ct} {H : Hp}
theorem Fin.bind {r : R α} {g : α → Sto → R β} {k : β → Ct → Hp → Prop} (h : Fin w E c H (r.bind g) k) : Fin w E c H r (fun a c1 H1 => Fin w E c1 H1 (g a c1.S) k) := by
  cases r with
  | no => exact h
  | ex x S => exact h
  | ok a S =>
    intro c1 H1 e1 g1 s1
    have h : Fin w E c H (g a S) k := h
    rw [s1]
    cases q : g a S with
    | no => rw [q] at h; exact h
    | ex x S2 =>
      rw [q] at h
      intro c2 H2 cls dd e2 g2 s2 rx
      exact h c2 H2 cls dd (e1.trans e2) g2 s2 rx
    | ok b S2 =>
      rw [q] at h
      intro c2 H2 e2 g2 s2
      exact h c2 H2 (e1.trans e2) g2 s2
theorem Fin.mono {r : R α} {k k' : α → Ct → Hp → Prop} (h : Fin w E c H r k) (i : ∀ a c' H', Ext c H c' H' → Good w H' c' → k a c' H' → k' a c' H') : Fin w E c H r k' := by
  cases r with
  | no => exact h
  | ex x S => exact h
  | ok a S =>
    intro c1 H1 e1 g1 s1
    exact i a c1 H1 e1 g1 (h c1 H1 e1 g1 s1)
theorem Fin.here {a : α} {S : Sto} {k : α → Ct → Hp → Prop} (h : Fin w E c H (.ok a S) k) (g : Good w H c) (e : c.S = S) : k a c H := h c H (Ext.refl c H) g e
theorem Fin.new {a : α} {S : Sto} {k : α → Ct → Hp → Prop} {p : Addr} {o : HO} (h : Fin w E c H (.ok a S) k) (g : Good w H c) (e : c.S = S) (hp : H p = none) : k a c (upd H p o) := h c _ (Ext.fresh g hp) (g.fresh hp) e
end

/-- a statement's end: how it goes on; what it raises is told with the names as they stand -/
inductive SR where
  | fl (f : Fl) (s : Sto) | ex (x : Xn) (e : Env) (s : Sto) | no
abbrev SM := Env → Sto → SR
def R.st (r : R D) (env : Env) (g : D → Sto → SR) : SR := match r with
  | .ok d s => g d s
  | .ex x s => .ex x env s
  | .no => .no
def R.bt (r : R Bool) (env : Env) (g : Bool → Sto → SR) : SR := match r with
  | .ok d s => g d s
  | .ex x s => .ex x env s
  | .no => .no
def R.lt (r : R (List D)) (env : Env) (g : List D → Sto → SR) : SR := match r with
  | .ok d s => g d s
  | .ex x s => .ex x env s
  | .no => .no
def SR.then (r : SR) (g : Env → Sto → SR) : SR := match r with
  | .fl (.nx e) s => g e s
  | r => r
@[simp] theorem st_ok (d : D) (s : Sto) (env : Env) (g : D → Sto → SR) : (R.ok d s).st env g = g d s := rfl
@[simp] theorem st_ex (x : Xn) (s : Sto) (env : Env) (g : D → Sto → SR) : (R.ex x s : R D).st env g = .ex x env s := rfl
@[simp] theorem bt_ok (d : Bool) (s : Sto) (env : Env) (g : Bool → Sto → SR) : (R.ok d s).bt env g = g d s := rfl
@[simp] theorem lt_ok (d : List D) (s : Sto) (env : Env) (g : List D → Sto → SR) : (R.ok d s).lt env g = g d s := rfl
@[simp] theorem then_nx (e : Env) (s : Sto) (g : Env → Sto → SR) : (SR.fl (.nx e) s).then g = g e s := rfl
@[simp] theorem then_rt (d : D) (s : Sto) (g : Env → Sto → SR) : (SR.fl (.rt d) s).then g = .fl (.rt d) s := rfl
@[simp] theorem then_bk (d : Env) (s : Sto) (g : Env → Sto → SR) : (SR.fl (.bk d) s).then g = .fl (.bk d) s := rfl
@[simp] theorem then_ct (d : Env) (s : Sto) (g : Env → Sto → SR) : (SR.fl (.ct d) s).then g = .fl (.ct d) s := rfl
@[simp] theorem then_ex (x : Xn) (e : Env) (s : Sto) (g : Env → Sto → SR) : (SR.ex x e s).then g = .ex x e s := rfl

/-! ### the readings -/
abbrev Wx (X : Cx) : Wd := ⟨X.K, X.mg⟩
def tM (w : Wd) (E : L2.St → XK) (f : ET) : TE := fun st H Q => ∃ c env, Good w H c ∧ RelEnv w H c env st ∧ Fin w (E st) c H (f env c.S) (fun d c' H' => ∀ v, RelD w H' c' d v → Q v H')
def tMB (w : Wd) (E : L2.St → XK) (f : BT) : TT := fun st H Q => ∃ c env, Good w H c ∧ RelEnv w H c env st ∧ Fin w (E st) c H (f env c.S) (fun b _ H' => Q b H')
def tMA (w : Wd) (E : L2.St → XK) (f : AT) : TA := fun st H Q => ∃ c env, Good w H c ∧ RelEnv w H c env st ∧ Fin w (E st) c H (f env c.S) (fun ds c' H' => ∀ vs, RelDs w H' c' ds vs → Q vs H')
def FlK (w : Wd) (En : Ends) (fl : Fl) (c : Ct) (H : Hp) : Prop := match fl with
  | .nx e => ∀ st, RelEnv w H c e st → En.nx st H
  | .bk e => ∀ st, RelEnv w H c e st → En.bk st H
  | .ct e => ∀ st, RelEnv w H c e st → En.ct st H
  | .rt d => ∀ v, RelD w H c d v → En.rt v H
def FinS (w : Wd) (E : L2.St → XK) (c : Ct) (H : Hp) (r : SR) (En : Ends) : Prop := match r with
  | .fl fl S => ∀ c' H', Ext c H c' H' → Good w H' c' → c'.S = S → FlK w En fl c' H'
  | .ex x env S => ∀ c' H' cls dd st, Ext c H c' H' → Good w H' c' → c'.S = S → RelEnv w H' c' env st → RelX w H' c' x cls dd → E st cls dd H'
  | .no => False
def tMS (w : Wd) (E : L2.St → XK) (f : SM) : TS := fun En st H => ∃ c env, Good w H c ∧ RelEnv w H c env st ∧ FinS w E c H (f env c.S) En
section
variable {w : Wd} {E : L2.St → XK} {c : Ct} {H : Hp} {env : Env} {st : L2.St} {En : Ends}
theorem FinS.later {c1 : Ct} {H1 : Hp} {r : SR} (e : Ext c H c1 H1) (h : FinS w E c H r En) : FinS w E c1 H1 r En := by
  cases r with
  | no => exact h
  | fl f S => exact fun c' H' e' g' s' => h c' H' (e.trans e') g' s'
  | ex x v S => exact fun c' H' cls dd st e' g' s' => h c' H' cls dd st (e.trans e') g' s'
theorem FinS.of_st {r : R D} {g : D → Sto → SR} (re : RelEnv w H c env st) (h : FinS w E c H (r.st env g) En) : Fin w (E st) c H r (fun d c1 H1 => FinS w E c1 H1 (g d c1.S) En) := by
  cases r with
  | no => exact h
  | ex x S => exact fun c' H' cls dd e' g' s' rx => h c' H' cls dd st e' g' s' (re.ext e') rx
  | ok d S =>
    intro c1 H1 e1 g1 s1
    rw [s1]
    exact FinS.later e1 (show FinS w E c H (g d S) En from h)
theorem FinS.of_bt {r : R Bool} {g : Bool → Sto → SR} (re : RelEnv w H c env st) (h : FinS w E c H (r.bt env g) En) : Fin w (E st) c H r (fun d c1 H1 => FinS w E c1 H1 (g d c1.S) En) := by
  cases r with
  | no => exact h
  | ex x S => exact fun c' H' cls dd e' g' s' rx => h c' H' cls dd st e' g' s' (re.ext e') rx
  | ok d S =>
    intro c1 H1 e1 g1 s1
    rw [s1]
    exact FinS.later e1 (show FinS w E c H (g d S) En from h)
theorem FinS.of_lt {r : R (List D)} {g : List D → Sto → SR} (re : RelEnv w H c env st) (h : FinS w E c H (r.lt env g) En) : Fin w (E st) c H r (fun d c1 H1 => FinS w E c1 H1 (g d c1.S) En) := by
  cases r with
  | no => exact h
  | ex x S => exact fun c' H' cls dd e' g' s' rx => h c' H' cls dd st e' g' s' (re.ext e') rx
  | ok d S =>
    intro c1 H1 e1 g1 s1
    rw [s1]
    exact FinS.later e1 (show FinS w E c H (g d S) En from h)
end
section
variable {X : Cx} {E : L2.St → XK}
theorem PE.imp {e : Expr} {t t' : TE} (h : PE X e t) (i : ∀ st H Q, t' st H Q → t st H Q) : PE X e t' := ⟨fun pins s st H Q I q => h.run pins s st H Q I (i st H Q q)⟩
theorem PT.imp {e : Expr} {t t' : TT} (h : PT X e t) (i : ∀ st H Q, t' st H Q → t st H Q) : PT X e t' := ⟨fun pins s st H Q I q => h.run pins s st H Q I (i st H Q q)⟩
theorem PW.imp {e : Expr} {t t' : TT} (h : PW X e t) (i : ∀ st H Q, t' st H Q → t st H Q) : PW X e t' := ⟨fun wh pins s st H Q I q => h.run wh pins s st H Q I (i st H Q q)⟩
theorem PA.imp {e : List Expr} {t t' : TA} (h : PA X e t) (i : ∀ st H Q, t' st H Q → t st H Q) : PA X e t' := ⟨fun pos pins s st H Q I q => h.run pos pins s st H Q I (i st H Q q)⟩
theorem PS.imp {e : Stmt} {t t' : TS} (h : PS X e t) (i : ∀ En st H, t' En st H → t En st H) : PS X e t' := ⟨fun pins s st H Q I q => h.run pins s st H Q I (i Q st H q)⟩
theorem PSs.imp {e : List Stmt} {t t' : TS} (h : PSs X e t) (i : ∀ En st H, t' En st H → t En st H) : PSs X e t' := ⟨fun pins s st H Q I q => h.run pins s st H Q I (i Q st H q)⟩
abbrev ME (X : Cx) (E : L2.St → XK) (e : Expr) (f : ET) : Prop := PE X e (tM (Wx X) E f)
abbrev MT (X : Cx) (E : L2.St → XK) (e : Expr) (f : BT) : Prop := PT X e (tMB (Wx X) E f)
abbrev MW (X : Cx) (E : L2.St → XK) (e : Expr) (f : BT) : Prop := PW X e (tMB (Wx X) E f)
abbrev MA (X : Cx) (E : L2.St → XK) (e : List Expr) (f : AT) : Prop := PA X e (tMA (Wx X) E f)
abbrev MS (X : Cx) (E : L2.St → XK) (e : Stmt) (f : SM) : Prop := PS X e (tMS (Wx X) E f)
abbrev MSs (X : Cx) (E : L2.St → XK) (e : List Stmt) (f : SM) : Prop := PSs X e (tMS (Wx X) E f)

/-! ### names and constants -/
def mVar (i : Nat) : ET := fun env s => match env[i]? with
  | some (some d) => .ok d s
  | _ => .no
def mC (d : D) : ET := fun _ s => .ok d s
theorem me_of_var {e : Expr} {i : Nat} (h : PE X e (tVar i)) : ME X E e (mVar i) := PE.imp h fun st H Q ⟨c, env, g, re, q⟩ => by
  unfold mVar at q
  cases e : env[i]? with
  | none => rw [e] at q; exact q.elim
  | some o =>
    cases o with
    | none => rw [e] at q; exact q.elim
    | some d =>
      rw [e] at q
      obtain ⟨v, a, b⟩ := re.get i d e
      exact ⟨v, a, q.here g rfl v b⟩
theorem me_of_const {e : Expr} {d : D} {v : V} (h : PE X e (tC v)) (r : ∀ H c, RelD (Wx X) H c d v) : ME X E e (mC d) := PE.imp h fun st H Q ⟨c, env, g, re, q⟩ => q.here g rfl v (r H c)
theorem me_int {i j pos} : ME X E (.Constant (.int i) j pos) (mC (.int i)) := me_of_const pe_int fun _ _ => .int i
theorem me_bl {i j pos} : ME X E (.Constant (.bool i) j pos) (mC (.bl i)) := me_of_const pe_bl fun _ _ => .bl i
theorem me_non {j pos} : ME X E (.Constant .none j pos) (mC .non) := me_of_const pe_non fun _ _ => .non
theorem me_str {i j pos} (h : i.length ≤ sizeLine := by decide) : ME X E (.Constant (.str i) j pos) (mC (.str i)) := me_of_const pe_str fun _ _ => .str i h
theorem mv (i : Nat) {x : Str} {pos : Pos} (hN : X.N[i]? = some x := by rfl) (hv : Vis X.env.scope x := by first | exact Or.inl rfl | exact Or.inr (Or.inl rfl) | exact Or.inr (Or.inr rfl)) (hd : (x == ("__debug__" : Str)) = false := by decide)
    (hcd : (x == ("__classdict__" : Str)) = false := by decide) : ME X E (.Name x pos) (mVar i) := me_of_var (pe_var hN hv hd hcd)
/-- a module's constant -/
theorem me_glob {x : Str} {d : D} {v : V} {u : Value} {pos : Pos} (hg : Gl X x) (hm : X.mg x = some u) (r : RelV v u) (rd : ∀ H c, RelD (Wx X) H c d v) (hd : (x == ("__debug__" : Str)) = false := by decide) : ME X E (.Name x pos) (mC d) := me_of_const (pe_glob hg hm r hd) rd

/-! ### operators that change nothing -/
abbrev Op2 := Sto → D → D → Option D
def mOp (op : Op2) (fa fb : ET) : ET := fun env s => (fa env s).bind fun d s1 => (fb env s1).bind fun e s2 => match op s2 d e with
  | some z => .ok z s2
  | none => .no
def rO (w : Wd) (op : Op2) : R2 := fun x y H Q => ∃ c d e z, Good w H c ∧ RelD w H c d x ∧ RelD w H c e y ∧ op c.S d e = some z ∧ ∀ H', Ext c H c H' → Good w H' c → ∀ v, RelD w H' c z v → Q v H'
theorem tOp_M {w : Wd} {op : Op2} {fa fb : ET} {st : L2.St} {H : Hp} {Q : VK} (h : tM w E (mOp op fa fb) st H Q) : tOp (rO w op) (tM w E fa) (tM w E fb) st H Q := by
  obtain ⟨c, env, g, re, q⟩ := h
  refine ⟨c, env, g, re, (Fin.bind q).mono fun d c1 H1 e1 g1 q1 v rv => ?_⟩
  refine ⟨c1, env, g1, re.ext e1, (Fin.bind q1).mono fun d2 c2 H2 e2 g2 q2 v2 rv2 => ?_⟩
  cases z : op c2.S d d2 with
  | none => rw [z] at q2; exact q2.elim
  | some y =>
    rw [z] at q2
    exact ⟨c2, d, d2, y, g2, rv.ext e2, rv2, z, fun H' e' g' v' r' => q2 c2 H' e' g' rfl v' r'⟩
abbrev OpM (X : Cx) (f : Value → Value → Sem Value) (op : Op2) : Prop := OpR X f (rO (Wx X) op)
variable {a b c' : Expr} {fa fb fc : ET} {pos : Pos}
theorem me_op {o : Operator} {op : Op2} (ho : OpM X (binaryOp o) op) (ha : ME X E a fa) (hb : ME X E b fb) : ME X E (.BinOp a o b pos) (mOp op fa fb) := PE.imp (pe_op ho ha hb) fun _ _ _ => tOp_M
theorem me_cmp {o : CmpOp} {op : Op2} (ho : OpM X (compareOp o) op) (ha : ME X E a fa) (hb : ME X E b fb) (hm : behindInMarks o b = false) : ME X E (.Compare a [o] [b] pos) (mOp op fa fb) := PE.imp (pe_cmpR ho ha hb hm) fun _ _ _ => tOp_M
/-- a value that is a truth value -/
def mB (f : ET) : BT := fun env s => (f env s).bind fun d s1 => match d with
  | .bl b => .ok b s1
  | _ => .no
theorem tB_M {w : Wd} {f : ET} {st : L2.St} {H : Hp} {Q : Bool → Hp → Prop} (h : tMB w E (mB f) st H Q) : tM w E f st H fun x H' => ∃ k, x = .bl k ∧ Q k H' := by
  obtain ⟨c, env, g, re, q⟩ := h
  refine ⟨c, env, g, re, (Fin.bind q).mono fun d c1 H1 e1 g1 q1 v rv => ?_⟩
  cases d with
  | bl b => cases rv; exact ⟨b, rfl, q1.here g1 rfl⟩
  | _ => exact q1.elim
theorem mt_cmp {o : CmpOp} {op : Op2} (ho : OpM X (compareOp o) op) (ha : ME X E a fa) (hb : ME X E b fb) (hm : behindInMarks o b = false) : MT X E (.Compare a [o] [b] pos) (mB (mOp op fa fb)) :=
  PT.imp (pt_cmpR ho ha hb hm) fun st H Q h => by
    obtain ⟨c, env, g, re, q⟩ := tB_M h
    exact tOp_M ⟨c, env, g, re, q⟩
/-- unary operators -/
def mUn (op : Sto → D → Option D) (fa : ET) : ET := fun env s => (fa env s).bind fun d s1 => match op s1 d with
  | some z => .ok z s1
  | none => .no
def rU1 (w : Wd) (op : Sto → D → Option D) : V → Hp → VK → Prop := fun x H Q => ∃ c d z, Good w H c ∧ RelD w H c d x ∧ op c.S d = some z ∧ ∀ H', Ext c H c H' → Good w H' c → ∀ v, RelD w H' c z v → Q v H'
theorem me_un {o : UnaryOp} {op : Sto → D → Option D} (ho : UnR X (unaryOp o) (rU1 (Wx X) op)) (ha : ME X E a fa) : ME X E (.UnaryOp o a pos) (mUn op fa) := PE.imp (pe_un ho ha) fun st H Q ⟨c, env, g, re, q⟩ => by
  refine ⟨c, env, g, re, (Fin.bind q).mono fun d c1 H1 e1 g1 q1 v rv => ?_⟩
  cases z : op c1.S d with
  | none => rw [z] at q1; exact q1.elim
  | some y =>
    rw [z] at q1
    exact ⟨c1, d, y, g1, rv, z, fun H' e' g' v' r' => q1 c1 H' e' g' rfl v' r'⟩
/-- a chain of two comparisons -/
def mChain (op op' : Op2) (fa fb fc : ET) : ET := fun env s => (fa env s).bind fun d s1 => (fb env s1).bind fun e s2 => match op s2 d e with
  | some (.bl true) => (fc env s2).bind fun k s3 => match op' s3 e k with
    | some z => .ok z s3
    | none => .no
  | some (.bl false) => .ok (.bl false) s2
  | _ => .no
theorem tChain_M {w : Wd} {op op' : Op2} {st : L2.St} {H : Hp} {Q : VK} (h : tM w E (mChain op op' fa fb fc) st H Q) : tChain (rO w op) (rO w op') (tM w E fa) (tM w E fb) (tM w E fc) st H Q := by
  obtain ⟨c, env, g, re, q⟩ := h
  refine ⟨c, env, g, re, (Fin.bind q).mono fun d c1 H1 e1 g1 q1 v rv => ?_⟩
  refine ⟨c1, env, g1, re.ext e1, (Fin.bind q1).mono fun d2 c2 H2 e2 g2 q2 v2 rv2 => ?_⟩
  cases z : op c2.S d d2 with
  | none => rw [z] at q2; exact q2.elim
  | some y =>
    rw [z] at q2
    cases y with
    | bl k =>
      refine ⟨c2, d, d2, .bl k, g2, rv.ext e2, rv2, z, fun H' e' g' v' r' => ?_⟩
      cases r'
      refine ⟨k, rfl, ?_⟩
      cases k with
      | false => simp only [Bool.false_eq_true, if_false]; exact q2 c2 H' e' g' rfl _ (.bl false)
      | true =>
        simp only [if_true]
        have q2 : Fin w (E st) c2 H2 ((fc env c2.S).bind fun k s3 => match op' s3 d2 k with | some z => .ok z s3 | none => .no) (fun d c' H' => ∀ v, RelD w H' c' d v → Q v H') := q2
        have q3 : Fin w (E st) c2 H' (fc env c2.S) (fun a c1 H1 => Fin w (E st) c1 H1 (match op' c1.S d2 a with | some z => .ok z c1.S | none => .no) (fun d c' H' => ∀ v, RelD w H' c' d v → Q v H')) := by
          have := Fin.bind q2
          cases q : fc env c2.S with
          | no => rw [q] at this; exact this
          | ex x S => rw [q] at this; exact fun c3 H3 cls dd e3 g3 s3 => this c3 H3 cls dd (e'.trans e3) g3 s3
          | ok a S => rw [q] at this; exact fun c3 H3 e3 g3 s3 => this c3 H3 (e'.trans e3) g3 s3
        refine ⟨c2, env, g', re.ext ((e1.trans e2).trans e'), q3.mono fun d3 c3 H3 e3 g3 q4 v3 rv3 => ?_⟩
        cases z3 : op' c3.S d2 d3 with
        | none => rw [z3] at q4; exact q4.elim
        | some y3 =>
          rw [z3] at q4
          exact ⟨c3, d2, d3, y3, g3, (rv2.ext e').ext e3, rv3, z3, fun H4 e4 g4 v4 r4 => q4 c3 H4 e4 g4 rfl v4 r4⟩
    | _ => exact q2.elim
theorem me_chain {o o' : CmpOp} {op op' : Op2} (ho : OpM X (compareOp o) op) (ho' : OpM X (compareOp o') op') (ha : ME X E a fa) (hb : ME X E b fb) (hc : ME X E c' fc)
    (hm : lastMarks [o, o'] [b, c'] = false := by with_unfolding_all rfl) : ME X E (.Compare a [o, o'] [b, c'] pos) (mChain op op' fa fb fc) := PE.imp (pe_chain ho ho' ha hb hc hm) fun _ _ _ => tChain_M
theorem mt_chain {o o' : CmpOp} {op op' : Op2} (ho : OpM X (compareOp o) op) (ho' : OpM X (compareOp o') op') (ha : ME X E a fa) (hb : ME X E b fb) (hc : ME X E c' fc)
    (hm : lastMarks [o, o'] [b, c'] = false := by with_unfolding_all rfl) : MT X E (.Compare a [o, o'] [b, c'] pos) (mB (mChain op op' fa fb fc)) := PT.imp (pt_chain ho ho' ha hb hc hm) fun st H Q h => by
    obtain ⟨c, env, g, re, q⟩ := tB_M h
    exact tChain_M ⟨c, env, g, re, q⟩
end
end Mi
end
section
set_option maxRecDepth 100000
namespace Mi
open PySem L2
/-! ### truth -/
def truD (s : Sto) : D → Option Bool
  | .non => some false
  | .bl b => some b
  | .int i => some (i != 0)
  | .str x => some ((x.length : Int) != 0)
  | .tup xs => some (!xs.isEmpty)
  | .lst xs => some (!xs.isEmpty)
  | .ref n => match s[n]? with
    | some (.lst _ xs) => some (!xs.isEmpty)
    | some (.dic true kvs) => some (!kvs.isEmpty)
    | _ => none
  | _ => none
theorem RelDs.empty {w : Wd} {H : Hp} {c : Ct} {ds : List D} {vs : List V} (h : RelDs w H c ds vs) : ds.isEmpty = vs.isEmpty := by
  cases h <;> rfl
theorem zip_empty {α β γ : Type} {kvs : List (α × β)} {vs : List γ} (h : kvs.length = vs.length) : kvs.isEmpty = ((kvs.map (·.1)).zip vs).isEmpty := by
  cases kvs with
  | nil => rfl
  | cons a r => cases vs with
    | nil => simp at h
    | cons b s => rfl
theorem truD_ok {w : Wd} {H : Hp} {c : Ct} {d : D} {v : V} {k : Bool} (g : Good w H c) (r : RelD w H c d v) (h : truD c.S d = some k) : TruV w.K v H k := by
  cases r with
  | non => simp [truD] at h; exact h.symm ▸ rfl
  | bl b => simp [truD] at h; exact h.symm
  | int i => simp [truD] at h; show k = (i != 0); rw [← h]
  | str x hx => simp [truD] at h; exact ⟨hx, h.symm⟩
  | tup hs rs => have h := Option.some.inj h; exact .inr (.inl ⟨_, hs.sq, by rw [← h, rs.empty]⟩)
  | lst hs rs => have h := Option.some.inj h; exact .inl ⟨_, hs.sq, by rw [← h, rs.empty]⟩
  | dic => simp [truD] at h
  | ins => simp [truD] at h
  | scr => simp [truD] at h
  | @ref n a hn =>
    simp only [truD] at h
    cases e : c.S[n]? with
    | none => rw [e] at h; cases h
    | some o =>
      rw [e] at h
      obtain ⟨ho, q, ro⟩ := g.obj n a o hn e
      cases ro with
      | lst rs => have h := Option.some.inj h; exact .inl ⟨_, .inl (.inl q), by rw [← h, rs.empty]⟩
      | @dic m kvs vs _ rs h1 h2 =>
        cases m with
        | false => simp at h
        | true =>
          have h := Option.some.inj h
          rw [h2 rfl] at q
          refine .inr (.inr ⟨_, q, ?_⟩)
          rw [← h, zip_empty (by simpa using rs.length)]
      | ins => simp at h
section
variable {X : Cx} {E : L2.St → XK} {a b c' : Expr} {fa fb fc : ET} {ba bb : BT} {pos : Pos} {rest : List Expr}
def mAnd (fa fb : ET) : ET := fun env s => (fa env s).bind fun d s1 => match truD s1 d with
  | some true => fb env s1
  | some false => .ok d s1
  | none => .no
def mOr (fa fb : ET) : ET := fun env s => (fa env s).bind fun d s1 => match truD s1 d with
  | some true => .ok d s1
  | some false => fb env s1
  | none => .no
def mNot (fa : ET) : ET := fun env s => (fa env s).bind fun d s1 => match truD s1 d with
  | some k => .ok (.bl (!k)) s1
  | none => .no
theorem me_one {op} (h : ME X E a fa) : ME X E (.BoolOp op [a] pos) fa := pe_one h
theorem me_and (ha : ME X E a fa) (hb : ME X E (.BoolOp .And (b :: rest) pos) fb) : ME X E (.BoolOp .And (a :: b :: rest) pos) (mAnd fa fb) := PE.imp (pe_andT ha hb) fun st H Q ⟨c, env, g, re, q⟩ => by
  refine ⟨c, env, g, re, (Fin.bind q).mono fun d c1 H1 e1 g1 q1 v rv => ?_⟩
  cases z : truD c1.S d with
  | none => rw [z] at q1; exact q1.elim
  | some k =>
    rw [z] at q1
    refine ⟨k, truD_ok g1 rv z, ?_⟩
    cases k with
    | true => exact iteT ⟨c1, env, g1, re.ext e1, q1⟩
    | false => exact iteF (q1.here g1 rfl v rv)
theorem me_or (ha : ME X E a fa) (hb : ME X E (.BoolOp .Or (b :: rest) pos) fb) : ME X E (.BoolOp .Or (a :: b :: rest) pos) (mOr fa fb) := PE.imp (pe_orT ha hb) fun st H Q ⟨c, env, g, re, q⟩ => by
  refine ⟨c, env, g, re, (Fin.bind q).mono fun d c1 H1 e1 g1 q1 v rv => ?_⟩
  cases z : truD c1.S d with
  | none => rw [z] at q1; exact q1.elim
  | some k =>
    rw [z] at q1
    refine ⟨k, truD_ok g1 rv z, ?_⟩
    cases k with
    | true => exact iteT (q1.here g1 rfl v rv)
    | false => exact iteF ⟨c1, env, g1, re.ext e1, q1⟩
theorem me_not (ha : ME X E a fa) : ME X E (.UnaryOp .Not a pos) (mNot fa) := PE.imp (pe_notT ha) fun st H Q ⟨c, env, g, re, q⟩ => by
  refine ⟨c, env, g, re, (Fin.bind q).mono fun d c1 H1 e1 g1 q1 v rv => ?_⟩
  cases z : truD c1.S d with
  | none => rw [z] at q1; exact q1.elim
  | some k =>
    rw [z] at q1
    exact ⟨k, truD_ok g1 rv z, q1.here g1 rfl _ (.bl _)⟩
/-- tests -/
def mTru (fa : ET) : BT := fun env s => (fa env s).bind fun d s1 => match truD s1 d with
  | some k => .ok k s1
  | none => .no
theorem mt_truth (ha : ME X E a fa) (he : ∀ whole, isTrue a X.env whole = (do let v ← whole; standAt a.pos; holding [v] (truthy v)) := by intro _; rfl) : MT X E a (mTru fa) := PT.imp (pt_truth ha he) fun st H Q ⟨c, env, g, re, q⟩ => by
  refine ⟨c, env, g, re, (Fin.bind q).mono fun d c1 H1 e1 g1 q1 v rv => ?_⟩
  cases z : truD c1.S d with
  | none => rw [z] at q1; exact q1.elim
  | some k =>
    rw [z] at q1
    exact ⟨k, truD_ok g1 rv z, q1.here g1 rfl⟩
def bAnd (fa fb : BT) : BT := fun env s => (fa env s).bind fun d s1 => match d with
  | true => fb env s1
  | false => .ok false s1
def bOr (fa fb : BT) : BT := fun env s => (fa env s).bind fun d s1 => match d with
  | true => .ok true s1
  | false => fb env s1
def bNot (fa : BT) : BT := fun env s => (fa env s).bind fun d s1 => .ok (!d) s1
theorem mw_and1 (ha : MT X E a ba) : MW X E (.BoolOp .And [a] pos) ba := pw_and1 ha
theorem mw_or1 (ha : MT X E a ba) : MW X E (.BoolOp .Or [a] pos) ba := pw_or1 ha
theorem mw_and (ha : MT X E a ba) (hb : MW X E (.BoolOp .And (b :: rest) pos) bb) : MW X E (.BoolOp .And (a :: b :: rest) pos) (bAnd ba bb) := PW.imp (pw_and ha hb) fun st H Q ⟨c, env, g, re, q⟩ => by
  refine ⟨c, env, g, re, (Fin.bind q).mono fun d c1 H1 e1 g1 q1 => ?_⟩
  cases d with
  | true => exact iteT ⟨c1, env, g1, re.ext e1, q1⟩
  | false => exact iteF (q1.here g1 rfl)
theorem mw_or (ha : MT X E a ba) (hb : MW X E (.BoolOp .Or (b :: rest) pos) bb) : MW X E (.BoolOp .Or (a :: b :: rest) pos) (bOr ba bb) := PW.imp (pw_or ha hb) fun st H Q ⟨c, env, g, re, q⟩ => by
  refine ⟨c, env, g, re, (Fin.bind q).mono fun d c1 H1 e1 g1 q1 => ?_⟩
  cases d with
  | true => exact iteT (q1.here g1 rfl)
  | false => exact iteF ⟨c1, env, g1, re.ext e1, q1⟩
theorem mt_w (h : MW X E a ba) : MT X E a ba := PW.pt h
theorem mt_not (ha : MT X E a ba) : MT X E (.UnaryOp .Not a pos) (bNot ba) := PT.imp (pt_not ha) fun st H Q ⟨c, env, g, re, q⟩ =>
  ⟨c, env, g, re, (Fin.bind q).mono fun d c1 H1 e1 g1 q1 => q1.here g1 rfl⟩
/-- a if t else b -/
def mIf (bc : BT) (fa fb : ET) : ET := fun env s => (bc env s).bind fun k s1 => match k with
  | true => fa env s1
  | false => fb env s1
theorem me_if {bc : BT} (hc : MT X E c' bc) (ha : ME X E a fa) (hb : ME X E b fb) : ME X E (.IfExp c' a b pos) (mIf bc fa fb) := PE.imp (pe_ifExp hc ha hb) fun st H Q ⟨c, env, g, re, q⟩ => by
  refine ⟨c, env, g, re, (Fin.bind q).mono fun d c1 H1 e1 g1 q1 => ?_⟩
  cases d with
  | true => exact iteT ⟨c1, env, g1, re.ext e1, q1⟩
  | false => exact iteF ⟨c1, env, g1, re.ext e1, q1⟩
/-! ### arguments, displays -/
def mNil : AT := fun _ s => .ok [] s
def mCons (fa : ET) (r : AT) : AT := fun env s => (fa env s).bind fun d s1 => (r env s1).bind fun ds s2 => .ok (d :: ds) s2
variable {es : List Expr} {fs : AT}
theorem ma_nil : MA X E [] mNil := PA.imp pa_nil fun st H Q ⟨c, env, g, re, q⟩ => q.here g rfl [] .nil
theorem ma_cons (ha : ME X E a fa) (hr : MA X E es fs) (hs : starEach (a :: es) X.env = (false, eval a X.env) :: starEach es X.env := by rfl) : MA X E (a :: es) (mCons fa fs) := PA.imp (pa_cons ha hr hs) fun st H Q ⟨c, env, g, re, q⟩ => by
  refine ⟨c, env, g, re, (Fin.bind q).mono fun d c1 H1 e1 g1 q1 v rv => ?_⟩
  refine ⟨c1, env, g1, re.ext e1, (Fin.bind q1).mono fun ds c2 H2 e2 g2 q2 vs rvs => ?_⟩
  exact q2.here g2 rfl _ (.cons (rv.ext e2) rvs)
def mTup (fs : AT) : ET := fun env s => (fs env s).bind fun ds s1 => if ds.length ≤ sizeLine then .ok (.tup ds) s1 else .no
/-- a list that stays as it is made -/
def mLst (fs : AT) : ET := fun env s => (fs env s).bind fun ds s1 => if ds.length ≤ sizeLine then .ok (.lst ds) s1 else .no
/-- a list that may be changed -/
def mLstR (fs : AT) : ET := fun env s => (fs env s).bind fun ds s1 => if ds.length ≤ sizeLine then .ok (.ref s1.length) (s1 ++ [.lst true ds]) else .no
theorem nlv_of {w : Wd} {H : Hp} {c : Ct} (g : Good w H c) {p : Addr} (h : H p = none) : ¬ Lv c p := fun l => by
  rcases l with ⟨n, o, e, eo, m⟩ | l
  · exact g.ne h e rfl
  · exact g.gne h l rfl
theorem fz_new {w : Wd} {H : Hp} {c : Ct} {ds : List D} {vs : List V} (g : Good w H c) {p : Addr} (h : H p = none) (r : RelDs w H c ds vs) : RelD w (upd H p (.lst vs)) c (.lst ds) (.ref p) :=
  .lst ⟨upd_same, nlv_of g h⟩ (r.ext (Ext.fresh g h))
theorem ft_new {w : Wd} {H : Hp} {c : Ct} {ds : List D} {vs : List V} (g : Good w H c) {p : Addr} (h : H p = none) (r : RelDs w H c ds vs) : RelD w (upd H p (.tup vs)) c (.tup ds) (.ref p) :=
  .tup (.inl ⟨.inl upd_same, nlv_of g h⟩) (r.ext (Ext.fresh g h))
theorem me_tup {x1} (h : MA X E es fs) : ME X E (.Tuple es x1 pos) (mTup fs) := PE.imp (pe_tup h) fun st H Q ⟨c, env, g, re, q⟩ => by
  refine ⟨c, env, g, re, (Fin.bind q).mono fun ds c1 H1 e1 g1 q1 vs rvs => ?_⟩
  by_cases z : ds.length ≤ sizeLine
  · rw [if_pos z] at q1
    exact ⟨by rw [← rvs.length]; exact z, fun p hp => q1.new g1 rfl hp _ (ft_new g1 hp rvs)⟩
  · rw [if_neg z] at q1; exact q1.elim
theorem me_lst (h : MA X E es fs) : ME X E (.List es pos) (mLst fs) := PE.imp (pe_lst h) fun st H Q ⟨c, env, g, re, q⟩ => by
  refine ⟨c, env, g, re, (Fin.bind q).mono fun ds c1 H1 e1 g1 q1 vs rvs => ?_⟩
  by_cases z : ds.length ≤ sizeLine
  · rw [if_pos z] at q1
    exact ⟨by rw [← rvs.length]; exact z, fun p hp => q1.new g1 rfl hp _ (fz_new g1 hp rvs)⟩
  · rw [if_neg z] at q1; exact q1.elim
theorem ref_new {w : Wd} {H : Hp} {c : Ct} (g : Good w H c) {p : Addr} {o : O} {ho : HO} : RelD w (upd H p ho) (c.push p o) (.ref c.S.length) (.ref p) := by
  refine .ref ?_
  show (c.p ++ [p])[c.S.length]? = some p
  rw [← g.len]; simp
theorem me_lstR (h : MA X E es fs) : ME X E (.List es pos) (mLstR fs) := PE.imp (pe_lst h) fun st H Q ⟨c, env, g, re, q⟩ => by
  refine ⟨c, env, g, re, (Fin.bind q).mono fun ds c1 H1 e1 g1 q1 vs rvs => ?_⟩
  by_cases z : ds.length ≤ sizeLine
  · rw [if_pos z] at q1
    refine ⟨by rw [← rvs.length]; exact z, fun p hp => ?_⟩
    exact q1 (c1.push p (.lst true ds)) _ (Ext.pushed g1 hp) (g1.pushed hp (.lst (rvs.ext (Ext.pushed g1 hp)))) rfl _ (ref_new g1)
  · rw [if_neg z] at q1; exact q1.elim
/-! ### calls -/
def R.quiet {α : Type} (r : R α) : R α := match r with
  | .ex _ _ => .no
  | r => r
@[simp] theorem quiet_ok {α : Type} (a : α) (s : Sto) : (R.ok a s).quiet = .ok a s := rfl
theorem Fin.quiet {α : Type} {w : Wd} {E E' : XK} {c : Ct} {H : Hp} {r : R α} {k : α → Ct → Hp → Prop} (h : Fin w E c H r.quiet k) : Fin w E' c H r k := by
  cases r with
  | ok a s => exact h
  | ex x s => exact (show False from h).elim
  | no => exact h
abbrev FT := List D → Sto → R D
/-- a def that raises nothing -/
def spM (w : Wd) (F : FT) : Sp := fun vs H Q _ => ∃ c ds, Good w H c ∧ RelDs w H c ds vs ∧ Fin w E0 c H (F ds c.S) (fun d c' H' => ∀ v, RelD w H' c' d v → Q v H')
def mCall (F : FT) (fs : AT) : ET := fun env s => (fs env s).bind fun ds s1 => (F ds s1).quiet
theorem tCall_M {w : Wd} {F : FT} {st : L2.St} {H : Hp} {Q : VK} (h : tM w E (mCall F fs) st H Q) : tCall (spM w F) [] E0 (tMA w E fs) st H Q := by
  obtain ⟨c, env, g, re, q⟩ := h
  refine ⟨c, env, g, re, (Fin.bind q).mono fun ds c1 H1 e1 g1 q1 vs rvs => ?_⟩
  show spM w F (vs ++ []) H1 Q E0
  rw [List.append_nil]
  exact ⟨c1, ds, g1, rvs, q1.quiet⟩
section
variable {k : Nat} {f : Addr} {fd : FuncData} {ps : List Str} {F : FT} {x : Str} {p : Pos}
theorem me_call (G : FnOk X.prog X.w X.K X.mg X.base CX0 k f fd ps (spM (Wx X) F)) (hr : Room k X.A) (hg : Gl X x) (hm : X.mg x = some (.ref f)) (hk : PySem.W.keepIn X.K (.ref f) = true) (hb : Binds X.K fd ps [])
    (ha : MA X E (a :: es) fs) (hdb : (x == ("__debug__" : Str)) = false := by decide) (he : starEach (a :: es) X.env = (false, eval a X.env) :: starEach es X.env := by rfl) (hpl : (backTo pos (starEach es X.env)).any (·.1) = false := by rfl) :
    ME X E (.Call (.Name x p) (a :: es) [] pos) (mCall F fs) := PE.imp (pe_call G hr hg hm hk hb .nil pass0 ha hdb he hpl) fun _ _ _ => tCall_M
theorem me_call0 (G : FnOk X.prog X.w X.K X.mg X.base CX0 k f fd ps (spM (Wx X) F)) (hr : Room k X.A) (hg : Gl X x) (hm : X.mg x = some (.ref f)) (hk : PySem.W.keepIn X.K (.ref f) = true) (hb : Binds X.K fd ps [])
    (hdb : (x == ("__debug__" : Str)) = false := by decide) : ME X E (.Call (.Name x p) [] [] pos) (mCall F mNil) := PE.imp (pe_call0 G hr hg hm hk hb .nil pass0 hdb) fun st H Q h => by
  obtain ⟨c, env, g, re, q⟩ := h
  have q : Fin (Wx X) (E st) c H ((F [] c.S).quiet) (fun d c' H' => ∀ v, RelD (Wx X) H' c' d v → Q v H') := q
  exact ⟨c, [], g, .nil, q.quiet⟩
end
/-- a built-in that changes nothing -/
abbrev Cb := Sto → List D → Option D
def mCb (cb : Cb) (fs : AT) : ET := fun env s => (fs env s).bind fun ds s1 => match cb s1 ds with
  | some z => .ok z s1
  | none => .no
def rCb (w : Wd) (cb : Cb) : List V → Hp → VK → Prop := fun vs H Q => ∃ c ds z, Good w H c ∧ RelDs w H c ds vs ∧ cb c.S ds = some z ∧ ∀ H', Ext c H c H' → Good w H' c → ∀ v, RelD w H' c z v → Q v H'
theorem tCB_M {w : Wd} {cb : Cb} {st : L2.St} {H : Hp} {Q : VK} (h : tM w E (mCb cb fs) st H Q) : tCB (rCb w cb) (tMA w E fs) st H Q := by
  obtain ⟨c, env, g, re, q⟩ := h
  refine ⟨c, env, g, re, (Fin.bind q).mono fun ds c1 H1 e1 g1 q1 vs rvs => ?_⟩
  cases z : cb c1.S ds with
  | none => rw [z] at q1; exact q1.elim
  | some y =>
    rw [z] at q1
    exact ⟨c1, ds, y, g1, rvs, z, fun H' e' g' v' r' => q1 c1 H' e' g' rfl v' r'⟩
abbrev CbM (X : Cx) (f : Value) (cb : Cb) : Prop := CallR X f (rCb (Wx X) cb)
section
variable {cb : Cb} {x : Str} {p : Pos} {id T : String}
theorem me_callB (hc : CbM X (.builtin id) cb) (hg : Gl X x) (hm : X.mg x = none) (hv : bootBuiltins x = some (.builtin id)) (ha : MA X E (a :: es) fs) (hn : x ≠ "__name__" := by decide) (hdb : (x == ("__debug__" : Str)) = false := by decide)
    (he : starEach (a :: es) X.env = (false, eval a X.env) :: starEach es X.env := by rfl) (hpl : (backTo pos (starEach es X.env)).any (·.1) = false := by rfl) : ME X E (.Call (.Name x p) (a :: es) [] pos) (mCb cb fs) :=
  PE.imp (pe_callB hc hg hm hv ha hn hdb he hpl) fun _ _ _ => tCB_M
theorem me_callTy (hc : CbM X (.type T) cb) (hg : Gl X x) (hm : X.mg x = none) (hv : bootBuiltins x = some (.type T)) (ha : MA X E (a :: es) fs) (hn : x ≠ "__name__" := by decide) (hdb : (x == ("__debug__" : Str)) = false := by decide)
    (he : starEach (a :: es) X.env = (false, eval a X.env) :: starEach es X.env := by rfl) (hpl : (backTo pos (starEach es X.env)).any (·.1) = false := by rfl) : ME X E (.Call (.Name x p) (a :: es) [] pos) (mCb cb fs) :=
  PE.imp (pe_callTy hc hg hm hv ha hn hdb he hpl) fun _ _ _ => tCB_M
/-- a method of a built-in type that changes nothing -/
abbrev Mb := Sto → D → List D → Option D
def mMb (mb : Mb) (fa : ET) (fs : AT) : ET := fun env s => (fa env s).bind fun d s1 => (fs env s1).bind fun ds s2 => match mb s2 d ds with
  | some z => .ok z s2
  | none => .no
def rMb (w : Wd) (mb : Mb) : V → List V → Hp → VK → Prop := fun x vs H Q => ∃ c d ds z, Good w H c ∧ RelD w H c d x ∧ RelDs w H c ds vs ∧ mb c.S d ds = some z ∧ ∀ H', Ext c H c H' → Good w H' c → ∀ v, RelD w H' c z v → Q v H'
abbrev MbM (X : Cx) (id : String) (mb : Mb) : Prop := MtR X id (rMb (Wx X) mb)
/-- the receiver is a text -/
def mStr (fa : ET) : ET := fun env s => (fa env s).bind fun d s1 => match d with
  | .str x => .ok (.str x) s1
  | _ => .no
theorem me_strm {name : Str} {apos : Pos} {mb : Mb} (slot : Slot "str" name id) (hty : typeOf (.builtin id) = pure (.type "method_descriptor")) (hm : MbM X id mb) (ho : ME X E b fa) (ha : MA X E (a :: es) fs)
    (hbase : attributeBase b name X.env (eval b X.env) = eval b X.env := by rfl)
    (hfew : ((backTo pos (starEach (a :: es) X.env)).all (fun x => !x.1) && (backToKw pos (keywordEach [] X.env)).all (fun x => x.1.isSome)
      && decide ((a :: es).length + ([] : List Keyword).length + (if ([] : List Keyword).isEmpty then 0 else 1) < 30)) = true := by rfl)
    (hline : (apos.endLine == pos.line) = true := by rfl) (hs : starEach (a :: es) X.env = (false, eval a X.env) :: starEach es X.env := by rfl) (hplain : (backTo pos (starEach es X.env)).any (·.1) = false := by rfl) :
    ME X E (.Call (.Attribute b name apos) (a :: es) [] pos) (mMb mb (mStr fa) fs) := PE.imp (pe_bm PySem.F.plainAttrs_str slot hty hm ho ha hbase hfew hline hs hplain) fun st H Q ⟨c, env, g, re, q⟩ => by
  have q1 := Fin.bind q
  have q2 := Fin.bind q1
  refine ⟨c, env, g, re, q2.mono fun d c1 H1 e1 g1 q1 v rv => ?_⟩
  cases d with
  | str y =>
    cases rv with
    | str _ hy =>
      refine ⟨rfl, c1, env, g1, re.ext e1, (Fin.bind (q1.here g1 rfl)).mono fun ds c2 H2 e2 g2 q2 vs rvs => ?_⟩
      cases z : mb c2.S (.str y) ds with
      | none => rw [z] at q2; exact q2.elim
      | some z' =>
        rw [z] at q2
        exact ⟨c2, .str y, ds, z', g2, .str y hy, rvs, z, fun H' e' g' v' r' => q2 c2 H' e' g' rfl v' r'⟩
  | _ => exact q1.elim
theorem me_strm0 {name : Str} {apos : Pos} {mb : Mb} (slot : Slot "str" name id) (hty : typeOf (.builtin id) = pure (.type "method_descriptor")) (hm : MbM X id mb) (ho : ME X E b fa)
    (hbase : attributeBase b name X.env (eval b X.env) = eval b X.env := by rfl) (hline : (apos.endLine == pos.line) = true := by rfl) :
    ME X E (.Call (.Attribute b name apos) [] [] pos) (mMb mb (mStr fa) mNil) := PE.imp (pe_bm0 PySem.F.plainAttrs_str slot hty hm ho hbase hline) fun st H Q ⟨c, env, g, re, q⟩ => by
  have q1 := Fin.bind q
  have q2 := Fin.bind q1
  refine ⟨c, env, g, re, q2.mono fun d c1 H1 e1 g1 q1 v rv => ?_⟩
  cases d with
  | str y =>
    cases rv with
    | str _ hy =>
      refine ⟨rfl, ?_⟩
      have q2 := (q1.here g1 rfl)
      have q2 : Fin (Wx X) (E st) c1 H1 (match mb c1.S (.str y) [] with | some z => .ok z c1.S | none => .no) (fun d c' H' => ∀ v, RelD (Wx X) H' c' d v → Q v H') := q2
      cases z : mb c1.S (.str y) [] with
      | none => rw [z] at q2; exact q2.elim
      | some z' =>
        rw [z] at q2
        exact ⟨c1, .str y, [], z', g1, .str y hy, .nil, z, fun H' e' g' v' r' => q2 c1 H' e' g' rfl v' r'⟩
  | _ => exact q1.elim
end
/-! ### subscripts, slices -/
theorem me_ix {op : Op2} (hr : IxR X (rO (Wx X) op)) (ha : ME X E a fa) (hb : ME X E b fb) (hs : PlainIx b) : ME X E (.Subscript a b pos) (mOp op fa fb) := PE.imp (pe_ix hr ha hb hs) fun _ _ _ => tOp_M
/-- a slice's part -/
abbrev PT1 := Env → Sto → R (Option Int)
def mNoPart : PT1 := fun _ s => .ok none s
def mPart (fa : ET) : PT1 := fun env s => (fa env s).bind fun d s1 => match d with
  | .int i => .ok (some i) s1
  | _ => .no
def tMO (w : Wd) (E : L2.St → XK) (f : PT1) : TO := fun st H Q => ∃ c env, Good w H c ∧ RelEnv w H c env st ∧ Fin w (E st) c H (f env c.S) (fun b _ H' => Q b H')
theorem PO.imp {e : Option Expr} {t t' : TO} (h : PO X e t) (i : ∀ st H Q, t' st H Q → t st H Q) : PO X e t' := ⟨fun pins s st H Q I q => h.run pins s st H Q I (i st H Q q)⟩
abbrev MO (X : Cx) (E : L2.St → XK) (e : Option Expr) (f : PT1) : Prop := PO X e (tMO (Wx X) E f)
theorem mo_none : MO X E none mNoPart := PO.imp po_none fun st H Q ⟨c, env, g, re, q⟩ => q.here g rfl
theorem mo_some (h : ME X E a fa) : MO X E (some a) (mPart fa) := PO.imp (po_some h) fun st H Q ⟨c, env, g, re, q⟩ => by
  refine ⟨c, env, g, re, (Fin.bind q).mono fun d c1 H1 e1 g1 q1 v rv => ?_⟩
  cases d with
  | int i => cases rv; exact ⟨i, rfl, q1.here g1 rfl⟩
  | _ => exact q1.elim
def mSl (op : Sto → D → Option Int → Option Int → Option D) (fa : ET) (fl fh : PT1) : ET := fun env s => (fa env s).bind fun d s1 => (fl env s1).bind fun l s2 => (fh env s2).bind fun h s3 => match op s3 d l h with
  | some z => .ok z s3
  | none => .no
def rS1 (w : Wd) (op : Sto → D → Option Int → Option Int → Option D) : V → Option Int → Option Int → Hp → VK → Prop := fun x l h H Q => ∃ c d z, Good w H c ∧ RelD w H c d x ∧ op c.S d l h = some z ∧ ∀ H', Ext c H c H' → Good w H' c → ∀ v, RelD w H' c z v → Q v H'
theorem me_slice {op : Sto → D → Option Int → Option Int → Option D} {lo hi : Option Expr} {fl fh : PT1} {p2 : Pos} (hr : SlR X (rS1 (Wx X) op)) (he : ME X E a fa) (hl : MO X E lo fl) (hu : MO X E hi fh) : ME X E (.Subscript a (.Slice lo hi none p2) pos) (mSl op fa fl fh) :=
  PE.imp (pe_slice hr he hl hu) fun st H Q ⟨c, env, g, re, q⟩ => by
    refine ⟨c, env, g, re, (Fin.bind q).mono fun d c1 H1 e1 g1 q1 v rv => ?_⟩
    refine ⟨c1, env, g1, re.ext e1, (Fin.bind q1).mono fun l c2 H2 e2 g2 q2 => ?_⟩
    refine ⟨c2, env, g2, (re.ext e1).ext e2, (Fin.bind q2).mono fun h c3 H3 e3 g3 q3 => ?_⟩
    cases z : op c3.S d l h with
    | none => rw [z] at q3; exact q3.elim
    | some y =>
      rw [z] at q3
      exact ⟨c3, d, y, g3, (rv.ext e2).ext e3, z, fun H' e' g' v' r' => q3 c3 H' e' g' rfl v' r'⟩
end
end Mi
end
section
set_option maxRecDepth 100000
namespace Mi
open PySem L2
/-! ### targets -/
abbrev Tg := D → Env → Option Env
abbrev Tgs := List D → Env → Option Env
structure Only (js : List Nat) (st st' : L2.St) : Prop where
  len : st'.length = st.length
  at' : ∀ j, j ∉ js → st'[j]? = st[j]?
theorem Only.set {st : L2.St} {i : Nat} {v : Option V} : Only [i] st (st.set i v) := ⟨by simp, fun j h => by rw [List.getElem?_set_ne (by simpa using Ne.symm (by simpa using h))]⟩
theorem Only.trans {a b : List Nat} {s1 s2 s3 : L2.St} (h : Only a s1 s2) (k : Only b s2 s3) : Only (a ++ b) s1 s3 :=
  ⟨k.len.trans h.len, fun j hj => by
    rw [List.mem_append, not_or] at hj
    exact (k.at' j hj.2).trans (h.at' j hj.1)⟩
theorem Only.refl {s : L2.St} : Only [] s s := ⟨rfl, fun _ _ => rfl⟩
theorem wipe_get (st : L2.St) (j : Nat) : ∀ vs : List Nat, (wipe st vs)[j]? = if j ∈ vs then st[j]?.map (fun _ => none) else st[j]?
  | [] => by simp [wipe]
  | v :: vs => by
    unfold wipe
    by_cases h : v = j
    · subst h
      rw [if_pos (by simp), List.getElem?_set]
      simp only [if_true]
      rw [wipe_length]
      by_cases l : v < st.length
      · rw [if_pos l, List.getElem?_eq_getElem l]; rfl
      · rw [if_neg l, List.getElem?_eq_none (by omega)]; rfl
    · rw [List.getElem?_set_ne h, wipe_get st j vs]
      have h' : ¬ j = v := fun e => h e.symm
      simp [h']
theorem wipe_only {st st' : L2.St} {js vs : List Nat} (h : Only js (wipe st vs) st') (hj : ∀ j ∈ js, j ∈ vs) : wipe st' vs = wipe st vs := by
  apply List.ext_getElem?
  intro j
  rw [wipe_get, wipe_get]
  by_cases m : j ∈ vs
  · rw [if_pos m, if_pos m]
    have l : st'.length = st.length := by rw [h.len, wipe_length]
    by_cases q : j < st.length
    · rw [List.getElem?_eq_getElem q, List.getElem?_eq_getElem (by omega)]; rfl
    · rw [List.getElem?_eq_none (by omega), List.getElem?_eq_none (by omega)]
  · rw [if_neg m, if_neg m, h.at' j (fun z => m (hj j z)), wipe_get, if_neg m]
def wipeE (env : Env) : List Nat → Env
  | [] => env
  | v :: vs => (wipeE env vs).set v none
theorem RelEnv.wipe {w : Wd} {H : Hp} {c : Ct} {env : Env} {st : L2.St} (r : RelEnv w H c env st) : ∀ vs : List Nat, RelEnv w H c (wipeE env vs) (L2.wipe st vs)
  | [] => r
  | v :: vs => by
    have ih := RelEnv.wipe r vs
    refine ⟨by simp [wipeE, L2.wipe, ih.len], fun j d e => ?_⟩
    unfold wipeE at e
    unfold L2.wipe
    by_cases h : v = j
    · subst h
      rw [List.getElem?_set] at e
      simp only [if_true] at e
      split at e <;> cases e
    · rw [List.getElem?_set_ne h] at e ⊢
      exact ih.get j d e
def tMG (w : Wd) (js : List Nat) (g : Tg) : TG := fun v st H Q => ∃ c d env env', Good w H c ∧ RelD w H c d v ∧ RelEnv w H c env st ∧ g d env = some env' ∧ ∀ st', Only js st st' → RelEnv w H c env' st' → Q st' H
def tMGs (w : Wd) (js : List Nat) (g : Tgs) : TGs := fun vs st H Q => ∃ c ds env env', Good w H c ∧ RelDs w H c ds vs ∧ RelEnv w H c env st ∧ g ds env = some env' ∧ ∀ st', Only js st st' → RelEnv w H c env' st' → Q st' H
theorem PG.imp {X : Cx} {tg : Expr} {t t' : TG} (h : PG X tg t) (i : ∀ v st H Q, t' v st H Q → t v st H Q) : PG X tg t' := ⟨fun pins s st H v u Q I r q => h.run pins s st H v u Q I r (i v st H Q q)⟩
theorem PGs.imp {X : Cx} {tg : List Expr} {t t' : TGs} (h : PGs X tg t) (i : ∀ v st H Q, t' v st H Q → t v st H Q) : PGs X tg t' := ⟨fun pins s st H v u Q I r q => h.run pins s st H v u Q I r (i v st H Q q)⟩
abbrev MG (X : Cx) (e : Expr) (js : List Nat) (g : Tg) : Prop := PG X e (tMG (Wx X) js g)
abbrev MGs (X : Cx) (e : List Expr) (js : List Nat) (g : Tgs) : Prop := PGs X e (tMGs (Wx X) js g)
def tgN (i : Nat) : Tg := fun d env => some (env.set i (some d))
def tgNil : Tgs := fun ds env => match ds with
  | [] => some env
  | _ => none
def tgCons (g : Tg) (r : Tgs) : Tgs := fun ds env => match ds with
  | d :: ds => match g d env with
    | some env1 => r ds env1
    | none => none
  | [] => none
def tgT (n : Nat) (r : Tgs) : Tg := fun d env => match d with
  | .tup ds => if ds.length = n then r ds env else none
  | _ => none
section
variable {X : Cx} {E : L2.St → XK} {pos : Pos}
theorem mg_name {i : Nat} {x : Str} (hN : X.N.Nodup) (hi : X.N[i]? = some x) (hx : Loc X.env.scope x) (hf : X.fn x = true ∨ X.env.scope.names.lookup x = some .local := by first | exact .inl rfl | exact .inr rfl | assumption) : MG X (.Name x pos) [i] (tgN i) :=
  PG.imp (pg_name hN hi hx hf) fun v st H Q ⟨c, d, env, env', g, r, re, e, q⟩ => by
    cases e
    exact q _ Only.set (re.set r)
theorem mgs_nil : MGs X [] [] tgNil := PGs.imp pgs_nil fun vs st H Q ⟨c, ds, env, env', g, r, re, e, q⟩ => by
  cases r with
  | nil => cases e; exact ⟨rfl, q _ Only.refl re⟩
  | cons _ _ => cases e
theorem mgs_cons {e : Expr} {es : List Expr} {j1 j2 : List Nat} {g : Tg} {r : Tgs} (h1 : MG X e j1 g) (h2 : MGs X es j2 r) (hs : (assignEach (e :: es) X.env).map (·.2) = assign e X.env :: (assignEach es X.env).map (·.2) := by rfl) : MGs X (e :: es) (j1 ++ j2) (tgCons g r) :=
  PGs.imp (pgs_cons h1 h2 hs) fun vs st H Q ⟨c, ds, env, env', gd, rr, re, e, q⟩ => by
    cases rr with
    | nil => cases e
    | @cons d ds v vs rd rs =>
      simp only [tgCons] at e
      cases z : g d env with
      | none => rw [z] at e; cases e
      | some env1 =>
        rw [z] at e
        exact ⟨v, vs, rfl, c, d, env, env1, gd, rd, re, z, fun st1 o1 re1 => ⟨c, ds, env1, env', gd, rs, re1, e, fun st2 o2 re2 => q st2 (o1.trans o2) re2⟩⟩
theorem mg_tup {es : List Expr} {k : Nat} {js : List Nat} {r : Tgs} {n : Nat} (hc : X.calm = true) (h : MGs X es js r) (hn : (assignEach es X.env).length = n := by rfl) (hst : (assignEach es X.env).findIdx? (·.1) = none := by rfl) : MG X (.Tuple es k pos) js (tgT n r) :=
  PG.imp (pg_tup hc h hn hst) fun v st H Q ⟨c, d, env, env', gd, rd, re, e, q⟩ => by
    cases rd with
    | tup hs rs =>
      simp only [tgT] at e
      split at e
      · rename_i hl
        exact ⟨_, _, rfl, hs.sq, by rw [← rs.length]; exact hl, c, _, env, env', gd, rs, re, e, q⟩
      · cases e
    | _ => simp [tgT] at e
/-! ### what is walked -/
abbrev IT := Env → Sto → R (List D × (Sto → Prop))
structure Walks (w : Wd) (c : Ct) (H : Hp) (G : Sto → Prop) (ds : List D) (J : It) : Prop where
  go : ∀ c1 H1, Tr c H c1 H1 → Good w H1 c1 → G c1.S → ∀ i, i < ds.length → J.go i H1
  yld : ∀ c1 H1, Tr c H c1 H1 → Good w H1 c1 → G c1.S → ∀ i d, ds[i]? = some d → ∀ x H2, J.yld i H1 x H2 → Ext c1 H1 c1 H2 ∧ Good w H2 c1 ∧ RelD w H2 c1 d x
  stop : ∀ c1 H1, Tr c H c1 H1 → Good w H1 c1 → G c1.S → J.stop ds.length H1
def tMI (w : Wd) (E : L2.St → XK) (it : IT) : TI := fun st H R => ∃ c env, Good w H c ∧ RelEnv w H c env st ∧ Fin w (E st) c H (it env c.S) (fun p c' H' => ∀ J, Walks w c' H' p.2 p.1 J → R J H')
theorem PI.imp {tg iter : Expr} {t t' : TI} (h : PI X tg iter t) (i : ∀ st H R, t' st H R → t st H R) : PI X tg iter t' := ⟨fun pins s st H R I q => h.run pins s st H R I (i st H R q)⟩
abbrev MI (X : Cx) (E : L2.St → XK) (tg iter : Expr) (it : IT) : Prop := PI X tg iter (tMI (Wx X) E it)
/-- a list as it is read -/
def asL (s : Sto) : D → Option (List D)
  | .lst xs => some xs
  | .ref n => match s[n]? with
    | some (.lst _ xs) => some xs
    | _ => none
  | _ => none
theorem asL_ok {w : Wd} {H : Hp} {c : Ct} {d : D} {v : V} {xs : List D} (g : Good w H c) (r : RelD w H c d v) (h : asL c.S d = some xs) : ∃ a vs, v = .ref a ∧ H a = some (.lst vs) ∧ RelDs w H c xs vs := by
  cases r with
  | lst hs rs => cases h; exact ⟨_, _, rfl, hs.1, rs⟩
  | @ref n a hn =>
    simp only [asL] at h
    cases e : c.S[n]? with
    | none => rw [e] at h; cases h
    | some o =>
      rw [e] at h
      obtain ⟨ho, q, ro⟩ := g.obj n a o hn e
      cases ro with
      | lst rs => cases h; exact ⟨_, _, rfl, q, rs⟩
      | _ => cases h
  | _ => simp [asL] at h
theorem asL_sq {w : Wd} {H : Hp} {c : Ct} {d : D} {v : V} {xs : List D} (g : Good w H c) (r : RelD w H c d v) (h : asL c.S d = some xs) : ∃ a vs, v = .ref a ∧ SqL w.K H a vs ∧ RelDs w H c xs vs :=
  let ⟨a, vs, e, q, rs⟩ := asL_ok g r h
  ⟨a, vs, e, .inl (.inl q), rs⟩
/-- the list that is walked stands as it was -/
def stays (d : D) (xs : List D) : Sto → Prop := fun s => asL s d = some xs
def itL (fa : ET) : IT := fun env s => (fa env s).bind fun d s1 => match asL s1 d with
  | some xs => .ok (xs, stays d xs) s1
  | none => .no
variable {a b : Expr} {fa fb : ET} {tg : Expr} {es : List Expr} {fs : AT}
theorem mi_list (ha : ME X E a fa) : MI X E tg a (itL fa) := PI.imp (pi_list ha) fun st H Rr ⟨c, env, g, re, q⟩ => by
  refine ⟨c, env, g, re, (Fin.bind q).mono fun d c1 H1 e1 g1 q1 v rv => ?_⟩
  cases z : asL c1.S d with
  | none => rw [z] at q1; exact q1.elim
  | some xs =>
    rw [z] at q1
    obtain ⟨p, vs, rfl, hq, rs⟩ := asL_sq g1 rv z
    refine ⟨p, rfl, ⟨vs, hq⟩, q1.here g1 rfl _ ⟨fun c2 H2 t g2 s2 i hi => ?_, fun c2 H2 t g2 s2 i d' hd x H3 y => ?_, fun c2 H2 t g2 s2 => ?_⟩⟩
    · obtain ⟨p', vs', e', hq', rs'⟩ := asL_sq g2 (rv.tr t) s2
      cases e'
      obtain ⟨x, hx, _⟩ := rs'.get (List.getElem?_eq_getElem hi)
      exact ⟨vs', x, hq', hx⟩
    · obtain ⟨rfl, y⟩ := y
      obtain ⟨p', vs', e', hq', rs'⟩ := asL_sq g2 (rv.tr t) s2
      cases e'
      obtain ⟨x', hx, rx⟩ := rs'.get hd
      have := y vs' hq'
      rw [hx] at this
      cases this
      exact ⟨Ext.refl _ _, g2, rx⟩
    · obtain ⟨p', vs', e', hq', rs'⟩ := asL_sq g2 (rv.tr t) s2
      cases e'
      exact ⟨vs', hq', by rw [← rs'.length]; exact Nat.le_refl _⟩
def itT (fa : ET) : IT := fun env s => (fa env s).bind fun d s1 => match d with
  | .tup xs => .ok (xs, fun _ => True) s1
  | _ => .no
theorem tup_ok {w : Wd} {H : Hp} {c : Ct} {xs : List D} {v : V} (r : RelD w H c (.tup xs) v) : ∃ a vs, v = .ref a ∧ SqT w.K H a vs ∧ RelDs w H c xs vs := by
  cases r with
  | tup hs rs => exact ⟨_, _, rfl, hs.sq, rs⟩
theorem mi_tup (ha : ME X E a fa) : MI X E tg a (itT fa) := PI.imp (pi_tup ha) fun st H Rr ⟨c, env, g, re, q⟩ => by
  refine ⟨c, env, g, re, (Fin.bind q).mono fun d c1 H1 e1 g1 q1 v rv => ?_⟩
  cases d with
  | tup xs =>
    obtain ⟨p, vs, rfl, hq, rs⟩ := tup_ok rv
    refine ⟨p, rfl, ⟨vs, hq⟩, q1.here g1 rfl _ ⟨fun c2 H2 t g2 s2 i hi => ?_, fun c2 H2 t g2 s2 i d' hd x H3 y => ?_, fun c2 H2 t g2 s2 => ?_⟩⟩
    · obtain ⟨p', vs', e', hq', rs'⟩ := tup_ok (rv.tr t)
      cases e'
      obtain ⟨x, hx, _⟩ := rs'.get (List.getElem?_eq_getElem hi)
      exact ⟨vs', x, hq', hx⟩
    · obtain ⟨rfl, y⟩ := y
      obtain ⟨p', vs', e', hq', rs'⟩ := tup_ok (rv.tr t)
      cases e'
      obtain ⟨x', hx, rx⟩ := rs'.get hd
      have := y vs' hq'
      rw [hx] at this
      cases this
      exact ⟨Ext.refl _ _, g2, rx⟩
    · obtain ⟨p', vs', e', hq', rs'⟩ := tup_ok (rv.tr t)
      cases e'
      exact ⟨vs', hq', by rw [← rs'.length]; exact Nat.le_refl _⟩
  | _ => exact q1.elim
def signs (x : Str) : List D := x.cps.toList.map fun c => .str ⟨#[c]⟩
def itS (fa : ET) : IT := fun env s => (fa env s).bind fun d s1 => match d with
  | .str x => .ok (signs x, fun _ => True) s1
  | _ => .no
theorem mi_str (ha : ME X E a fa) : MI X E tg a (itS fa) := PI.imp (pi_str ha) fun st H Rr ⟨c, env, g, re, q⟩ => by
  refine ⟨c, env, g, re, (Fin.bind q).mono fun d c1 H1 e1 g1 q1 v rv => ?_⟩
  cases d with
  | str x =>
    cases rv
    refine ⟨x, rfl, q1.here g1 rfl _ ⟨fun c2 H2 t g2 s2 i hi => ?_, fun c2 H2 t g2 s2 i d' hd y H3 yl => ?_, fun c2 H2 t g2 s2 => ?_⟩⟩
    · simpa [signs, Its] using hi
    · obtain ⟨rfl, k, hk, rfl⟩ := yl
      have e : (signs x)[i]? = some (.str ⟨#[k]⟩) := by
        unfold signs
        rw [List.getElem?_map, Array.getElem?_toList, hk]; rfl
      rw [e] at hd
      cases hd
      exact ⟨Ext.refl _ _, g2, .str _ (show 1 ≤ sizeLine by decide)⟩
    · simp [signs, Its]
  | _ => exact q1.elim
def rangeD (lo : Int) (n : Nat) : List D := (List.range n).map fun (i : Nat) => .int (lo + (i : Int))
def itR1 (fs : AT) : IT := fun env s => (fs env s).bind fun ds s1 => match ds with
  | [.int j] => if -(2 ^ 62) ≤ j ∧ j < 2 ^ 62 then .ok (rangeD 0 j.toNat, fun _ => True) s1 else .no
  | _ => .no
theorem walks_range {w : Wd} {H : Hp} {c : Ct} {lo : Int} {n : Nat} : Walks w c H (fun _ => True) (rangeD lo n) (Itr lo n) := by
  refine ⟨fun c2 H2 t g2 s2 i hi => ?_, fun c2 H2 t g2 s2 i d' hd y H3 yl => ?_, fun c2 H2 t g2 s2 => ?_⟩
  · simpa [rangeD, Itr] using hi
  · obtain ⟨rfl, rfl⟩ := yl
    have hi : i < n := by simpa [rangeD] using (List.getElem?_eq_some_iff.mp hd).1
    have e : (rangeD lo n)[i]? = some (.int (lo + (i : Int))) := by simp [rangeD, hi]
    rw [e] at hd
    cases hd
    exact ⟨Ext.refl _ _, g2, .int _⟩
  · simp [rangeD, Itr]
theorem mi_range1 {p : Pos} (hg : Gl X "range") (hm : X.mg "range" = none) (ha : MA X E [a] fs) (hs : starEach [a] X.env = [(false, eval a X.env)] := by rfl) : MI X E tg (.Call (.Name "range" p) [a] [] pos) (itR1 fs) :=
  PI.imp (pi_range1 hg hm ha hs) fun st H Rr ⟨c, env, g, re, q⟩ => by
    refine ⟨c, env, g, re, (Fin.bind q).mono fun ds c1 H1 e1 g1 q1 vs rvs => ?_⟩
    split at q1
    · rename_i j
      cases rvs with
      | cons rv rn =>
        cases rn
        cases rv
        split at q1
        · rename_i hj
          exact ⟨j, rfl, hj.1, hj.2, q1.here g1 rfl _ walks_range⟩
        · exact q1.elim
    · exact q1.elim
/-- zip of two lists, of two tuples -/
def zipD (xs ys : List D) : List D := (xs.zip ys).map fun p => .tup [p.1, p.2]
def itZ (fs : AT) : IT := fun env s => (fs env s).bind fun ds s2 => match ds with
  | [.tup xs, .tup ys] => .ok (zipD xs ys, fun _ => True) s2
  | [d, e] => match asL s2 d, asL s2 e with
    | some xs, some ys => .ok (zipD xs ys, fun s => asL s d = some xs ∧ asL s e = some ys) s2
    | _, _ => .no
  | _ => .no
theorem zipD_get {xs ys : List D} {i : Nat} {d : D} (h : (zipD xs ys)[i]? = some d) : ∃ x y, xs[i]? = some x ∧ ys[i]? = some y ∧ d = .tup [x, y] := by
  unfold zipD at h
  rw [List.getElem?_map] at h
  cases z : (xs.zip ys)[i]? with
  | none => rw [z] at h; cases h
  | some p =>
    rw [z] at h
    cases h
    rw [List.getElem?_zip_eq_some] at z
    exact ⟨p.1, p.2, z.1, z.2, rfl⟩
theorem pair_new {w : Wd} {H : Hp} {c : Ct} {d e : D} {x y : V} {p : Addr} (g : Good w H c) (hp : H p = none) (rx : RelD w H c d x) (ry : RelD w H c e y) : Ext c H c (upd H p (.tup [x, y])) ∧ Good w (upd H p (.tup [x, y])) c ∧ RelD w (upd H p (.tup [x, y])) c (.tup [d, e]) (.ref p) :=
  ⟨Ext.fresh g hp, g.fresh hp, ft_new g hp (.cons rx (.cons ry .nil))⟩
theorem mi_zip {p tpos : Pos} {elts : List Expr} {kk : Nat} (hg : Gl X "zip") (hm : X.mg "zip" = none) (ha : MA X E [a, b] fs) (hs : starEach [a, b] X.env = (false, eval a X.env) :: starEach [b] X.env := by rfl)
    (hpl : (backTo pos (starEach [b] X.env)).any (·.1) = false := by rfl) : MI X E (.Tuple elts kk tpos) (.Call (.Name "zip" p) [a, b] [] pos) (itZ fs) :=
  PI.imp (RZ.pi_zipA hg hm ha hs hpl) fun st H Rr ⟨c, env, g, re, q⟩ => by
    refine ⟨c, env, g, re, (Fin.bind q).mono fun ds c1 H1 e1 g1 q1 vs rvs => ?_⟩
    split at q1
    · cases rvs with
      | cons rd rn =>
        cases rn with
        | cons re' rn =>
          cases rn
          obtain ⟨pa, vs, rfl, hq, rs⟩ := tup_ok rd
          obtain ⟨pb, us, rfl, hq2, rs2⟩ := tup_ok re'
          refine ⟨pa, pb, vs, us, rfl, .inr ⟨hq, hq2, q1.here g1 rfl _ ⟨fun c2 H2 t g2 s2 i hi => ?_, fun c2 H2 t g2 s2 i d' hd x H3 y => ?_, fun c2 H2 t g2 s2 => ?_⟩⟩⟩
          · obtain ⟨_, vs', e', hv, r1⟩ := tup_ok (rd.tr t)
            cases e'
            obtain ⟨_, us', e', hu, r2⟩ := tup_ok (re'.tr t)
            cases e'
            obtain ⟨dx, dy, h1, h2, _⟩ := zipD_get (List.getElem?_eq_getElem hi)
            obtain ⟨x, hx, _⟩ := r1.get h1
            obtain ⟨y, hy, _⟩ := r2.get h2
            exact ⟨vs', us', x, y, hv, hu, hx, hy⟩
          · obtain ⟨T, x1, y1, rfl, hT, rfl, k1, k2⟩ := y
            obtain ⟨_, vs', e', hv, r1⟩ := tup_ok (rd.tr t)
            cases e'
            obtain ⟨_, us', e', hu, r2⟩ := tup_ok (re'.tr t)
            cases e'
            obtain ⟨dx, dy, h1, h2, rfl⟩ := zipD_get hd
            obtain ⟨x, hx, rx⟩ := r1.get h1
            obtain ⟨y, hy, ry⟩ := r2.get h2
            have e1 := k1 vs' hv
            have e2 := k2 us' hu
            rw [hx] at e1; cases e1
            rw [hy] at e2; cases e2
            exact pair_new g2 hT rx ry
          · obtain ⟨_, vs', e', hv, r1⟩ := tup_ok (rd.tr t)
            cases e'
            obtain ⟨_, us', e', hu, r2⟩ := tup_ok (re'.tr t)
            cases e'
            refine ⟨vs', us', hv, hu, ?_⟩
            have l1 := r1.length
            have l2 := r2.length
            simp only [zipD, List.length_map, List.length_zip]
            omega
    · rename_i d e hnot
      cases rvs with
      | cons rd rn =>
        cases rn with
        | cons re' rn =>
          cases rn
          split at q1
          · rename_i xs ys zx zy
            obtain ⟨pa, vs, rfl, hq, rs⟩ := asL_sq g1 rd zx
            obtain ⟨pb, us, rfl, hq2, rs2⟩ := asL_sq g1 re' zy
            refine ⟨pa, pb, vs, us, rfl, .inl ⟨hq, hq2, q1.here g1 rfl _ ⟨fun c2 H2 t g2 s2 i hi => ?_, fun c2 H2 t g2 s2 i d' hd x H3 y => ?_, fun c2 H2 t g2 s2 => ?_⟩⟩⟩
            · obtain ⟨_, vs', e', hv, r1⟩ := asL_sq g2 (rd.tr t) s2.1
              cases e'
              obtain ⟨_, us', e', hu, r2⟩ := asL_sq g2 (re'.tr t) s2.2
              cases e'
              obtain ⟨dx, dy, h1, h2, _⟩ := zipD_get (List.getElem?_eq_getElem hi)
              obtain ⟨x, hx, _⟩ := r1.get h1
              obtain ⟨y, hy, _⟩ := r2.get h2
              exact ⟨vs', us', x, y, hv, hu, hx, hy⟩
            · obtain ⟨T, x1, y1, rfl, hT, rfl, k1, k2⟩ := y
              obtain ⟨_, vs', e', hv, r1⟩ := asL_sq g2 (rd.tr t) s2.1
              cases e'
              obtain ⟨_, us', e', hu, r2⟩ := asL_sq g2 (re'.tr t) s2.2
              cases e'
              obtain ⟨dx, dy, h1, h2, rfl⟩ := zipD_get hd
              obtain ⟨x, hx, rx⟩ := r1.get h1
              obtain ⟨y, hy, ry⟩ := r2.get h2
              have e1 := k1 vs' hv
              have e2 := k2 us' hu
              rw [hx] at e1; cases e1
              rw [hy] at e2; cases e2
              exact pair_new g2 hT rx ry
            · obtain ⟨_, vs', e', hv, r1⟩ := asL_sq g2 (rd.tr t) s2.1
              cases e'
              obtain ⟨_, us', e', hu, r2⟩ := asL_sq g2 (re'.tr t) s2.2
              cases e'
              refine ⟨vs', us', hv, hu, ?_⟩
              have l1 := r1.length
              have l2 := r2.length
              simp only [zipD, List.length_map, List.length_zip]
              omega
          · exact q1.elim
    · exact q1.elim
/-- enumerate of a list -/
def enumD (xs : List D) : List D := (List.range xs.length).zip xs |>.map fun p => .tup [.int (p.1 : Int), p.2]
def itE (fs : AT) : IT := fun env s => (fs env s).bind fun ds s2 => match ds with
  | [d] => match asL s2 d with
    | some xs => .ok (enumD xs, stays d xs) s2
    | none => .no
  | _ => .no
theorem enumD_get {xs : List D} {i : Nat} {d : D} (h : (enumD xs)[i]? = some d) : ∃ x, xs[i]? = some x ∧ d = .tup [.int ((i : Nat) : Int), x] := by
  unfold enumD at h
  rw [List.getElem?_map] at h
  cases z : ((List.range xs.length).zip xs)[i]? with
  | none => rw [z] at h; cases h
  | some p =>
    rw [z] at h
    cases h
    rw [List.getElem?_zip_eq_some] at z
    have hi : i < xs.length := (List.getElem?_eq_some_iff.mp z.2).1
    have e : p.1 = i := by
      have := z.1
      rw [List.getElem?_range hi] at this
      exact (Option.some.inj this).symm
    exact ⟨p.2, z.2, by show D.tup [D.int ((p.1 : Nat) : Int), p.2] = _; rw [e]⟩
theorem mi_enum {p tpos : Pos} {elts : List Expr} {kk : Nat} (hg : Gl X "enumerate") (hm : X.mg "enumerate" = none) (ha : MA X E [a] fs) (hs : starEach [a] X.env = [(false, eval a X.env)] := by rfl) : MI X E (.Tuple elts kk tpos) (.Call (.Name "enumerate" p) [a] [] pos) (itE fs) :=
  PI.imp (pi_enum hg hm ha hs) fun st H Rr ⟨c, env, g, re, q⟩ => by
    refine ⟨c, env, g, re, (Fin.bind q).mono fun ds c1 H1 e1 g1 q1 vs rvs => ?_⟩
    split at q1
    · rename_i d
      cases rvs with
      | cons rd rn =>
        cases rn
        split at q1
        · rename_i xs zx
          obtain ⟨pa, vs, rfl, hq, rs⟩ := asL_sq g1 rd zx
          refine ⟨pa, vs, rfl, hq, q1.here g1 rfl _ ⟨fun c2 H2 t g2 s2 i hi => ?_, fun c2 H2 t g2 s2 i d' hd x H3 y => ?_, fun c2 H2 t g2 s2 => ?_⟩⟩
          · obtain ⟨_, vs', e', hv, r1⟩ := asL_sq g2 (rd.tr t) s2
            cases e'
            obtain ⟨dx, h1, _⟩ := enumD_get (List.getElem?_eq_getElem hi)
            obtain ⟨x, hx, _⟩ := r1.get h1
            exact ⟨vs', x, hv, hx⟩
          · obtain ⟨T, x1, rfl, hT, rfl, k1⟩ := y
            obtain ⟨_, vs', e', hv, r1⟩ := asL_sq g2 (rd.tr t) s2
            cases e'
            obtain ⟨dx, h1, rfl⟩ := enumD_get hd
            obtain ⟨x, hx, rx⟩ := r1.get h1
            have e1 := k1 vs' hv
            rw [hx] at e1; cases e1
            exact pair_new g2 hT (.int _) rx
          · obtain ⟨_, vs', e', hv, r1⟩ := asL_sq g2 (rd.tr t) s2
            cases e'
            refine ⟨vs', hv, ?_⟩
            have l1 := r1.length
            simp only [enumD, List.length_map, List.length_zip, List.length_range]
            omega
        · exact q1.elim
    · exact q1.elim
end
end Mi
end
section
set_option maxRecDepth 100000
namespace Mi
open PySem L2 PyProof.Rows
/-! ### list comprehensions -/
open Classical in
noncomputable def lcGo (G : Sto → Prop) (g : Tg) (bt : BT) (fe : ET) (env : Env) : List D → List D → Sto → R (List D)
  | [], acc, s => if G s then .ok acc s else .no
  | d :: r, acc, s => if G s then (match g d env with
      | some env2 => (bt env2 s).bind fun b s1 => match b with
        | true => (fe env2 s1).bind fun y s2 => if acc.length < sizeLine then lcGo G g bt fe env r (acc ++ [y]) s2 else .no
        | false => lcGo G g bt fe env r acc s1
      | none => .no) else .no
def bYes : BT := fun _ s => .ok true s
noncomputable def mLc (it : IT) (g : Tg) (bt : BT) (fe : ET) (vs : List Nat) : ET := fun env s => (it env s).bind fun p s1 => (lcGo p.2 g bt fe (wipeE env vs) p.1 [] s1).quiet.bind fun ds s2 => .ok (.lst ds) s2
abbrev E00 : L2.St → XK := fun _ => E0
theorem E00_elim {w : Wd} {c : Ct} {H : Hp} {α : Type} {r : R α} {k : α → Ct → Hp → Prop} {a : α} {S : Sto} (e : r = .ok a S) (h : ∀ c' H', Ext c H c' H' → Good w H' c' → c'.S = S → k a c' H') : Fin w E0 c H r k := by rw [e]; exact h
section
variable {X : Cx} {E : L2.St → XK} {pos : Pos} {a b : Expr} {fa fb : ET} {tg : Expr}
abbrev MTs (X : Cx) (E : L2.St → XK) (e : List Expr) (f : BT) : Prop := PTs X e (tMB (Wx X) E f)
theorem PTs.imp {e : List Expr} {t t' : TT} (h : PTs X e t) (i : ∀ st H Q, t' st H Q → t st H Q) : PTs X e t' := ⟨fun pins s st H Q I q => h.run pins s st H Q I (i st H Q q)⟩
theorem mts_nil : MTs X E [] bYes := PTs.imp pts_nil fun st H Q ⟨c, env, g, re, q⟩ => q.here g rfl
theorem mts_one {bt : BT} (h : MT X E a bt) : MTs X E [a] bt := pts_one h
theorem lcGo_cons {G : Sto → Prop} {g : Tg} {bt : BT} {fe : ET} {env : Env} {d : D} {r acc out : List D} {s S : Sto} (h : lcGo G g bt fe env (d :: r) acc s = .ok out S) :
    G s ∧ ∃ env2, g d env = some env2 ∧ ∃ b s1, bt env2 s = .ok b s1 ∧ ((b = false ∧ lcGo G g bt fe env r acc s1 = .ok out S) ∨ (b = true ∧ ∃ y s2, fe env2 s1 = .ok y s2 ∧ acc.length < sizeLine ∧ lcGo G g bt fe env r (acc ++ [y]) s2 = .ok out S)) := by
  rw [lcGo] at h
  split at h
  · rename_i hG
    refine ⟨hG, ?_⟩
    split at h
    · rename_i env2 he
      refine ⟨env2, he, ?_⟩
      cases z : bt env2 s with
      | no => rw [z] at h; cases h
      | ex x S1 => rw [z] at h; cases h
      | ok b s1 =>
        rw [z] at h
        refine ⟨b, s1, rfl, ?_⟩
        cases b with
        | false => exact .inl ⟨rfl, h⟩
        | true =>
          simp only [bind_ok] at h
          cases z2 : fe env2 s1 with
          | no => rw [z2] at h; cases h
          | ex x S1 => rw [z2] at h; cases h
          | ok y s2 =>
            rw [z2] at h
            simp only [bind_ok] at h
            split at h
            · rename_i hl
              exact .inr ⟨rfl, y, s2, rfl, hl, h⟩
            · cases h
    · cases h
  · cases h
theorem lcGo_nil {G : Sto → Prop} {g : Tg} {bt : BT} {fe : ET} {env : Env} {acc out : List D} {s S : Sto} (h : lcGo G g bt fe env [] acc s = .ok out S) : G s ∧ out = acc ∧ S = s := by
  rw [lcGo] at h
  split at h
  · rename_i hG; cases h; exact ⟨hG, rfl, rfl⟩
  · cases h
theorem tLc_M {w : Wd} {it : IT} {g : Tg} {bt : BT} {fe : ET} {js vs : List Nat} {st : L2.St} {H : Hp} {Q : VK} (hj : ∀ j ∈ js, j ∈ vs) (h : tM w E (mLc it g bt fe vs) st H Q) :
    tLc (tMI w E it) (tMG w js g) (tMB w E00 bt) (tM w E00 fe) vs st H Q := by
  obtain ⟨c, env, gd, re, q⟩ := h
  refine ⟨c, env, gd, re, (Fin.bind q).mono fun p c1 H1 e1 g1 q1 J WJ Dd hD => ?_⟩
  -- the whole run of the block
  cases z : lcGo p.2 g bt fe (wipeE env vs) p.1 [] c1.S with
  | no => rw [z] at q1; exact q1.elim
  | ex x S => rw [z] at q1; exact q1.elim
  | ok out S =>
    rw [z] at q1
    have fin : ∀ c' H', Ext c1 H1 c' H' → Good w H' c' → c'.S = S → ∀ v, RelD w H' c' (.lst out) v → Q v H' := q1
    clear q1 q
    refine ⟨fun i m H' => m = p.1.length - i ∧ i ≤ p.1.length ∧ ∃ c' acc vacc, Good w H' c' ∧ Tr c1 H1 c' H' ∧ c'.gs = Dd :: c1.gs ∧ (∀ b ∈ c1.gs, H' b = H1 b) ∧ H' Dd = some (.lst vacc) ∧ RelDs w H' c' acc vacc ∧ lcGo p.2 g bt fe (wipeE env vs) (p.1.drop i) acc c'.S = .ok out S,
      ⟨p.1.length, by simp, Nat.zero_le _, c1.gh Dd, [], [], g1.gh hD, Tr.gh hD, rfl, fun b hb => upd_ne (g1.gne hD hb), upd_same, .nil, z⟩, ?_⟩
    rintro i m H2 ⟨rfl, hi, c2, acc, vacc, g2, t2, gs2, gk2, hD2, ra, run⟩
    have nlD : ∀ (l : List Addr), l = c1.gs → ¬ Lv (c2.ug l) Dd := fun l el lv => by
      rcases lv with ⟨n, o, en, eo, mo⟩ | lv
      · have := (g2.gst Dd (by rw [gs2]; simp)).2
        exact this (List.mem_of_getElem? (show c2.p[n]? = some Dd from en))
      · rw [el] at lv
        exact g1.gne hD (show Dd ∈ c1.gs from lv) rfl
    by_cases hlt : i < p.1.length
    · rw [List.drop_eq_getElem_cons hlt] at run
      obtain ⟨hG, env2, he2, b, s1, hb, alt⟩ := lcGo_cons run
      refine .inr ⟨WJ.go c2 H2 t2 g2 hG i hlt, fun H' => ∃ c' acc vacc, Good w H' c' ∧ Tr c1 H1 c' H' ∧ c'.gs = Dd :: c1.gs ∧ (∀ b ∈ c1.gs, H' b = H1 b) ∧ H' Dd = some (.lst vacc) ∧ RelDs w H' c' acc vacc ∧ lcGo p.2 g bt fe (wipeE env vs) (p.1.drop (i + 1)) acc c'.S = .ok out S,
        fun H' hN => ⟨p.1.length - (i + 1), by omega, rfl, hlt, hN⟩, fun x H3 hy => ?_⟩
      obtain ⟨e3, g3, rx⟩ := WJ.yld c2 H2 t2 g2 hG i _ (List.getElem?_eq_getElem hlt) x H3 hy
      have t3 := t2.trans e3.toTr
      refine ⟨c2, _, wipeE env vs, env2, g3, rx, ((re.tr e1.toTr).tr t3).wipe vs, he2, fun st2 on re2 => ⟨wipe_only on hj, c2, env2, g3, re2, E00_elim hb fun c4 H4 e4 g4 s4 => ?_⟩⟩
      have gk4 : ∀ b ∈ c1.gs, H4 b = H1 b := fun b hb => ((e4.gk b (by rw [gs2]; exact List.mem_cons_of_mem _ hb)).trans (e3.gk b (by rw [gs2]; exact List.mem_cons_of_mem _ hb))).trans (gk2 b hb)
      have hD4 : H4 Dd = some (.lst vacc) := ((e4.gk Dd (by rw [gs2]; simp)).trans (e3.gk Dd (by rw [gs2]; simp))).trans hD2
      have ra4 : RelDs w H4 c4 acc vacc := (ra.ext e3).ext e4
      rcases alt with ⟨rfl, run2⟩ | ⟨rfl, y, s2, hfe, hl, run2⟩
      · exact iteF ⟨c4, acc, vacc, g4, t3.trans e4.toTr, e4.gs.trans gs2, gk4, hD4, ra4, by rw [s4]; exact run2⟩
      · refine iteT ⟨c4, env2, g4, re2.ext e4, E00_elim (by rw [s4]; exact hfe) fun c5 H5 e5 g5 s5 v rv => ?_⟩
        have hD5 : H5 Dd = some (.lst vacc) := (e5.gk Dd (by rw [e4.gs, gs2]; simp)).trans hD4
        have gs5 : c5.gs = Dd :: c1.gs := e5.gs.trans (e4.gs.trans gs2)
        have mem5 : Dd ∈ c5.gs := by rw [gs5]; simp
        refine ⟨vacc, hD5, by rw [← ra4.length]; exact hl, c5, acc ++ [y], vacc ++ [v], g5.grow mem5, ((t3.trans e4.toTr).trans e5.toTr).trans (Tr.grow mem5), gs5, fun b hb => ?_, upd_same, ?_, by rw [s5]; exact run2⟩
        · rw [upd_ne (fun zz => g1.gne hD hb zz)]
          exact (e5.gk b (by rw [e4.gs, gs2]; exact List.mem_cons_of_mem _ hb)).trans (gk4 b hb)
        · exact ((ra4.ext e5).append (.cons rv .nil)).tr (Tr.grow mem5)
    · have hi' : i = p.1.length := by omega
      subst hi'
      rw [List.drop_length] at run
      obtain ⟨hG, rfl, rfl⟩ := lcGo_nil run
      refine .inl ⟨WJ.stop c2 H2 t2 g2 hG, ?_⟩
      have sub : ∀ b ∈ c1.gs, b ∈ c2.gs := fun b hb => by rw [gs2]; exact List.mem_cons_of_mem _ hb
      have tu : Tr c2 H2 (c2.ug c1.gs) H2 := Tr.ug sub
      refine fin (c2.ug c1.gs) H2 ⟨t2.trans tu, rfl, gk2⟩ (g2.ug sub) rfl _ (.lst ⟨hD2, nlD _ rfl⟩ (ra.tr tu))
theorem me_lc {elt iter : Expr} {ifs : List Expr} {scope : Scope} {own : List (Str × Nat)} {it : IT} {g : Tg} {js : List Nat} {bt : BT} {fe : ET} (hc : X.calm = true) (hN : X.N.Nodup) (hi : MI X E tg iter it) (ok : BlkOk X.N X.env.scope scope own)
    (hg : ∀ s H C cl fp, MG (X.blk s H scope (compEnvC scope cl C X.env) fp) tg js g) (ht : ∀ s H C cl fp, MTs (X.blk s H scope (compEnvC scope cl C X.env) fp) E00 ifs bt)
    (he : ∀ s H C cl fp, ME (X.blk s H scope (compEnvC scope cl C X.env) fp) E00 elt fe) (hj : ∀ j ∈ js, j ∈ own.map (·.2) := by decide) (hs : ∀ x, foldedSetIterable iter X.env x = pure x := by intro _; rfl) :
    ME X E (.ListComp elt [⟨tg, iter, ifs, 0⟩] scope pos) (mLc it g bt fe (own.map (·.2))) := PE.imp (pe_lc hc hN hi ok hg ht he hs) fun _ _ _ => tLc_M hj
/-! ### statements -/
variable {st1 : Stmt} {sts : List Stmt} {f1 f2 : SM}
def sNil : SM := fun env s => .fl (.nx env) s
def sSeq (f g : SM) : SM := fun env s => (f env s).then g
theorem mss_nil : MSs X E [] sNil := PSs.imp pss_nil fun En st H ⟨c, env, g, re, q⟩ => q c H (Ext.refl c H) g rfl st re
theorem mss_cons (h1 : MS X E st1 f1) (h2 : MSs X E sts f2) : MSs X E (st1 :: sts) (sSeq f1 f2) := PSs.imp (pss_cons h1 h2) fun En st H ⟨c, env, g, re, q⟩ => by
  refine ⟨c, env, g, re, ?_⟩
  have q : FinS (Wx X) E c H ((f1 env c.S).then f2) En := q
  cases z : f1 env c.S with
  | no => rw [z] at q; exact q
  | ex x e S => rw [z] at q; exact q
  | fl fl S =>
    rw [z] at q
    intro c1 H1 e1 g1 s1
    cases fl with
    | nx env1 =>
      intro st1 re1
      refine ⟨c1, env1, g1, re1, ?_⟩
      rw [s1]
      exact FinS.later e1 q
    | rt d => exact q c1 H1 e1 g1 s1
    | bk e => exact q c1 H1 e1 g1 s1
    | ct e => exact q c1 H1 e1 g1 s1
theorem mss_one (h1 : MS X E st1 f1) : MSs X E [st1] f1 := PSs.imp (pss_one h1) fun _ _ _ h => h
def sIf (bc : BT) (f g : SM) : SM := fun env s => (bc env s).bt env fun k s1 => match k with
  | true => f env s1
  | false => g env s1
theorem ms_if {c' : Expr} {bc : BT} {b1 b2 : List Stmt} (hc : MT X E c' bc) (h1 : MSs X E b1 f1) (h2 : MSs X E b2 f2) : MS X E (.If c' b1 b2 pos) (sIf bc f1 f2) := PS.imp (ps_if hc h1 h2) fun En st H ⟨c, env, g, re, q⟩ => by
  refine ⟨c, env, g, re, (FinS.of_bt re q).mono fun k c1 H1 e1 g1 q1 => ?_⟩
  cases k with
  | true => exact iteT ⟨c1, env, g1, re.ext e1, q1⟩
  | false => exact iteF ⟨c1, env, g1, re.ext e1, q1⟩
def sRet (fa : ET) : SM := fun env s => (fa env s).st env fun d s1 => .fl (.rt d) s1
theorem ms_ret (h : ME X E a fa) : MS X E (.Return (some a) pos) (sRet fa) := PS.imp (ps_ret h) fun En st H ⟨c, env, g, re, q⟩ =>
  ⟨c, env, g, re, (FinS.of_st re q).mono fun d c1 H1 e1 g1 q1 v rv => q1 c1 H1 (Ext.refl _ _) g1 rfl v rv⟩
def sRetN : SM := fun env s => .fl (.rt .non) s
theorem ms_retN : MS X E (.Return none pos) sRetN := PS.imp ps_retN fun En st H ⟨c, env, g, re, q⟩ => q c H (Ext.refl c H) g rfl _ .non
theorem ms_pass : MS X E (.Pass pos) sNil := PS.imp ps_pass fun En st H ⟨c, env, g, re, q⟩ => q c H (Ext.refl c H) g rfl st re
def sBrk : SM := fun env s => .fl (.bk env) s
def sCnt : SM := fun env s => .fl (.ct env) s
theorem ms_break : MS X E (.Break pos) sBrk := PS.imp ps_break fun En st H ⟨c, env, g, re, q⟩ => q c H (Ext.refl c H) g rfl st re
theorem ms_continue : MS X E (.Continue pos) sCnt := PS.imp ps_continue fun En st H ⟨c, env, g, re, q⟩ => q c H (Ext.refl c H) g rfl st re
def sExp (fa : ET) : SM := fun env s => (fa env s).st env fun _ s1 => .fl (.nx env) s1
theorem ms_expr (h : ME X E a fa) (hs : swapsWith a none pos.line X.env = pure false := by rfl) : MS X E (.Expr a pos) (sExp fa) := PS.imp (ps_expr h hs) fun En st H ⟨c, env, g, re, q⟩ =>
  ⟨c, env, g, re, (FinS.of_st re q).mono fun d c1 H1 e1 g1 q1 v rv => q1 c1 H1 (Ext.refl _ _) g1 rfl st (re.ext e1)⟩
def sAsg (fa : ET) (g : Tg) : SM := fun env s => (fa env s).st env fun d s1 => match g d env with
  | some env1 => .fl (.nx env1) s1
  | none => .no
theorem tAsg_M {w : Wd} {js : List Nat} {g : Tg} {En : Ends} {st : L2.St} {H : Hp} (h : tMS w E (sAsg fa g) En st H) : tAsg (tM w E fa) (tMG w js g) En st H := by
  obtain ⟨c, env, gd, re, q⟩ := h
  refine ⟨c, env, gd, re, (FinS.of_st re q).mono fun d c1 H1 e1 g1 q1 v rv => ?_⟩
  cases z : g d env with
  | none => rw [z] at q1; exact q1.elim
  | some env1 =>
    rw [z] at q1
    exact ⟨c1, d, env, env1, g1, rv, re.ext e1, z, fun st' on re' => q1 c1 H1 (Ext.refl _ _) g1 rfl st' re'⟩
theorem ms_asg {js : List Nat} {g : Tg} (he : ME X E a fa) (hg : MG X tg js g) (hs : swapsWithSole [tg] a pos.line X.env = pure false := by rfl) (hw : swappedStores [tg] a X.env = pure none := by rfl)
    (h1 : (assignEach [tg] X.env).map (·.2) = [assign tg X.env] := by rfl) : MS X E (.Assign [tg] a pos) (sAsg fa g) := PS.imp (ps_asg he hg hs hw h1) fun _ _ _ => tAsg_M
theorem ms_set {i : Nat} {x : Str} {pos' : Pos} (hN : X.N.Nodup) (hi : X.N[i]? = some x) (hx : Loc X.env.scope x) (he : ME X E a fa) (hs : swapsWith a (some (.Name x pos')) pos.line X.env = pure false := by rfl) (hf : X.fn x = true ∨ X.env.scope.names.lookup x = some .local := by first | exact .inl rfl | exact .inr rfl | assumption) :
    MS X E (.Assign [.Name x pos'] a pos) (sAsg fa (tgN i)) := PS.imp (ps_set hN hi hx he hs hf) fun En st H ⟨c, env, gd, re, q⟩ => by
  refine ⟨c, env, gd, re, (FinS.of_st re q).mono fun d c1 H1 e1 g1 q1 v rv => ?_⟩
  exact q1 c1 H1 (Ext.refl _ _) g1 rfl _ ((re.ext e1).set rv)
theorem ms_setLc {i : Nat} {y : Str} {py : Pos} {elt iter : Expr} {ifs : List Expr} {scope : Scope} {own : List (Str × Nat)} {lpos : Pos} {it : IT} {g : Tg} {js : List Nat} {bt : BT} {fe : ET} (hc : X.calm = true) (hN : X.N.Nodup) (hy : X.N[i]? = some y) (hyl : X.env.scope.names.lookup y = some .local)
    (hsw : swapsWith (.ListComp elt [⟨tg, iter, ifs, 0⟩] scope lpos) (some (.Name y py)) pos.line X.env = pure true) (hi : MI X E tg iter it) (ok : BlkOk X.N X.env.scope scope own)
    (hg : ∀ s H C cl fp, MG (X.blk s H scope (compEnvC scope cl C X.env) fp) tg js g) (ht : ∀ s H C cl fp, MTs (X.blk s H scope (compEnvC scope cl C X.env) fp) E00 ifs bt)
    (he : ∀ s H C cl fp, ME (X.blk s H scope (compEnvC scope cl C X.env) fp) E00 elt fe) (hj : ∀ j ∈ js, j ∈ own.map (·.2) := by decide) (hs : ∀ x, foldedSetIterable iter X.env x = pure x := by intro _; rfl) :
    MS X E (.Assign [.Name y py] (.ListComp elt [⟨tg, iter, ifs, 0⟩] scope lpos) pos) (sAsg (mLc it g bt fe (own.map (·.2))) (tgN i)) := PS.imp (ps_setLc hc hN hy hyl hsw hi ok hg ht he hs) fun En st H ⟨c, env, gd, re, q⟩ => by
  refine tLc_M hj ⟨c, env, gd, re, (FinS.of_st re q).mono fun d c1 H1 e1 g1 q1 v rv => ?_⟩
  exact q1 c1 H1 (Ext.refl _ _) g1 rfl _ ((re.ext e1).set rv)
/-- a, b = x, y -/
def sPar (i j : Nat) (fs : AT) : SM := fun env s => (fs env s).lt env fun ds s1 => match ds with
  | [d, e] => .fl (.nx ((env.set i (some d)).set j (some e))) s1
  | _ => .no
theorem ms_par {i j : Nat} {x y : Str} {fs : AT} {px py pt : Pos} {kt k2 pt2} (hc : X.calm = true) (hN : X.N.Nodup) (hi : X.N[i]? = some x) (hj : X.N[j]? = some y) (hij : i ≠ j)
    (hx : X.env.scope.names.lookup x = some .local) (hy : X.env.scope.names.lookup y = some .local) (ha : MA X E [a, b] fs) (hw : swappedStores [.Tuple [.Name x px, .Name y py] kt pt] (.Tuple [a, b] k2 pt2) X.env = pure (some [x, y]) := by rfl) :
    MS X E (.Assign [.Tuple [.Name x px, .Name y py] kt pt] (.Tuple [a, b] k2 pt2) pos) (sPar i j fs) := PS.imp (ps_par hc hN hi hj hij hx hy ha hw) fun En st H ⟨c, env, gd, re, q⟩ => by
  refine ⟨c, env, gd, re, (FinS.of_lt re q).mono fun ds c1 H1 e1 g1 q1 vs rvs => ?_⟩
  split at q1
  · cases rvs with
    | cons rd rn =>
      cases rn with
      | cons rd2 rn =>
        cases rn
        exact ⟨_, _, rfl, q1 c1 H1 (Ext.refl _ _) g1 rfl _ (((re.ext e1).set rd).set rd2)⟩
  · exact q1.elim
/-! ### loops -/
open Classical in
noncomputable def forGo (G : Sto → Prop) (g : Tg) (body : SM) : List D → Env → Sto → SR
  | [], env, s => if G s then .fl (.nx env) s else .no
  | d :: r, env, s => if G s then (match g d env with
      | some env1 => match body env1 s with
        | .fl (.nx e) s1 => forGo G g body r e s1
        | .fl (.ct e) s1 => forGo G g body r e s1
        | .fl (.bk e) s1 => .fl (.nx e) s1
        | .fl (.rt v) s1 => .fl (.rt v) s1
        | .ex x e s1 => .ex x e s1
        | .no => .no
      | none => .no) else .no
def R.it (r : R (List D × (Sto → Prop))) (env : Env) (g : List D × (Sto → Prop) → Sto → SR) : SR := match r with
  | .ok d s => g d s
  | .ex x s => .ex x env s
  | .no => .no
@[simp] theorem it_ok (d : List D × (Sto → Prop)) (s : Sto) (env : Env) (g : List D × (Sto → Prop) → Sto → SR) : (R.ok d s).it env g = g d s := rfl
noncomputable def sFor (it : IT) (g : Tg) (body : SM) : SM := fun env s => (it env s).it env fun p s1 => forGo p.2 g body p.1 env s1
theorem ms_for {iter : Expr} {body : List Stmt} {it : IT} {g : Tg} {js : List Nat} {fb : SM} (hp : PassesOwn (model X.prog X.w) X.A X.env X.xe) (hc : X.calm = true) (hi : MI X E tg iter it) (hg : MG X tg js g) (hb : MSs X E body fb)
    (hs : ∀ x, foldedSetIterable iter X.env x = pure x := by intro _; rfl) : MS X E (.For tg iter body [] pos) (sFor it g fb) := PS.imp (ps_for hp hc hi hg hb hs) fun En st H ⟨c, env, gd, re, q⟩ => by
  refine ⟨c, env, gd, re, ?_⟩
  have q : FinS (Wx X) E c H ((it env c.S).it env fun p s1 => forGo p.2 g fb p.1 env s1) En := q
  cases z : it env c.S with
  | no => rw [z] at q; exact q.elim
  | ex x S => rw [z] at q; exact fun c' H' cls dd e' g' s' rx => q c' H' cls dd st e' g' s' (re.ext e') rx
  | ok p S =>
    rw [z] at q
    intro c1 H1 e1 g1 s1 J WJ
    have q0 : FinS (Wx X) E c1 H1 (forGo p.2 g fb (p.1.drop 0) env c1.S) En := by
      rw [s1]
      exact FinS.later e1 q
    refine ⟨fun i m st' H' => m = p.1.length - i ∧ i ≤ p.1.length ∧ ∃ c' env', Good (Wx X) H' c' ∧ RelEnv (Wx X) H' c' env' st' ∧ Tr c1 H1 c' H' ∧ FinS (Wx X) E c' H' (forGo p.2 g fb (p.1.drop i) env' c'.S) En,
      ⟨p.1.length, by simp, Nat.zero_le _, c1, env, g1, re.ext e1, (Ext.refl _ _).toTr, q0⟩, ?_⟩
    rintro i m st2 H2 ⟨rfl, hi', c2, env2, g2, re2, t2, q2⟩
    by_cases hlt : i < p.1.length
    · rw [List.drop_eq_getElem_cons hlt, forGo] at q2
      split at q2
      case isFalse => exact q2.elim
      rename_i hG
      split at q2
      case h_2 => exact q2.elim
      rename_i env3 he3
      refine .inr ⟨WJ.go c2 H2 t2 g2 hG i hlt, fun st' H' => ∃ c' env', Good (Wx X) H' c' ∧ RelEnv (Wx X) H' c' env' st' ∧ Tr c1 H1 c' H' ∧ FinS (Wx X) E c' H' (forGo p.2 g fb (p.1.drop (i + 1)) env' c'.S) En,
        fun st' H' hN => ⟨p.1.length - (i + 1), by omega, rfl, hlt, hN⟩, fun x H3 hy => ?_⟩
      obtain ⟨e3, g3, rx⟩ := WJ.yld c2 H2 t2 g2 hG i _ (List.getElem?_eq_getElem hlt) x H3 hy
      refine ⟨c2, _, env2, env3, g3, rx, re2.ext e3, he3, fun st3 on re3 => ⟨c2, env3, g3, re3, ?_⟩⟩
      cases zb : fb env3 c2.S with
      | no => rw [zb] at q2; exact q2.elim
      | ex x e S3 =>
        rw [zb] at q2
        exact FinS.later (w := Wx X) (r := .ex x e S3) (En := { En with nx := _, ct := _, bk := En.nx }) e3 (show FinS (Wx X) E c2 H2 (.ex x e S3) { En with nx := _, ct := _, bk := En.nx } from q2)
      | fl fl S3 =>
        rw [zb] at q2
        intro c4 H4 e4 g4 s4
        cases fl with
        | nx e => exact fun st4 re4 => ⟨c4, e, g4, re4, t2.trans (e3.trans e4).toTr, by rw [s4]; exact FinS.later (e3.trans e4) q2⟩
        | ct e => exact fun st4 re4 => ⟨c4, e, g4, re4, t2.trans (e3.trans e4).toTr, by rw [s4]; exact FinS.later (e3.trans e4) q2⟩
        | bk e => exact fun st4 re4 => q2 c4 H4 (e3.trans e4) g4 s4 st4 re4
        | rt d => exact fun v rv => q2 c4 H4 (e3.trans e4) g4 s4 v rv
    · have hi2 : i = p.1.length := by omega
      subst hi2
      rw [List.drop_length, forGo] at q2
      split at q2
      case isFalse => exact q2.elim
      rename_i hG
      exact .inl ⟨WJ.stop c2 H2 t2 g2 hG, q2 c2 H2 (Ext.refl _ _) g2 rfl st2 re2⟩
def whGo (bc : BT) (body : SM) : Nat → Env → Sto → SR
  | 0, _, _ => .no
  | n + 1, env, s => (bc env s).bt env fun k s1 => match k with
    | true => match body env s1 with
      | .fl (.nx e) s2 => whGo bc body n e s2
      | .fl (.ct e) s2 => whGo bc body n e s2
      | .fl (.bk e) s2 => .fl (.nx e) s2
      | .fl (.rt v) s2 => .fl (.rt v) s2
      | .ex x e s2 => .ex x e s2
      | .no => .no
    | false => .fl (.nx env) s1
theorem ms_while {c' : Expr} {body : List Stmt} {bc : BT} {fb : SM} (n : Nat) (hp : PassesOwn (model X.prog X.w) X.A X.env X.xe) (hc : MT X E c' bc) (hb : MSs X E body fb) : MS X E (.While c' body [] pos) (whGo bc fb n) := PS.imp (ps_while hp hc hb) fun En st H ⟨c, env, gd, re, q⟩ => by
  refine ⟨fun m st' H' => ∃ c' env', Good (Wx X) H' c' ∧ RelEnv (Wx X) H' c' env' st' ∧ FinS (Wx X) E c' H' (whGo bc fb m env' c'.S) En, ⟨n, c, env, gd, re, q⟩, ?_⟩
  rintro m st1 H1 ⟨c1, env1, g1, re1, q1⟩
  cases m with
  | zero => exact q1.elim
  | succ m =>
    rw [whGo] at q1
    refine ⟨c1, env1, g1, re1, (FinS.of_bt re1 q1).mono fun k c2 H2 e2 g2 q2 => ?_⟩
    cases k with
    | false => exact iteF (q2 c2 H2 (Ext.refl _ _) g2 rfl st1 (re1.ext e2))
    | true =>
      refine iteT ⟨fun st' H' => ∃ c' env', Good (Wx X) H' c' ∧ RelEnv (Wx X) H' c' env' st' ∧ FinS (Wx X) E c' H' (whGo bc fb m env' c'.S) En, fun st' H' hN => ⟨m, Nat.lt_succ_self m, hN⟩, c2, env1, g2, re1.ext e2, ?_⟩
      simp only at q2
      cases zb : fb env1 c2.S with
      | no => rw [zb] at q2; exact q2.elim
      | ex x e S3 => rw [zb] at q2; exact q2
      | fl fl S3 =>
        rw [zb] at q2
        intro c4 H4 e4 g4 s4
        cases fl with
        | nx e => exact fun st4 re4 => ⟨c4, e, g4, re4, by rw [s4]; exact FinS.later e4 q2⟩
        | ct e => exact fun st4 re4 => ⟨c4, e, g4, re4, by rw [s4]; exact FinS.later e4 q2⟩
        | bk e => exact fun st4 re4 => q2 c4 H4 e4 g4 s4 st4 re4
        | rt d => exact fun v rv => q2 c4 H4 e4 g4 s4 v rv
end
/-! ### defs -/
def mFun (N n : Nat) (body : SM) : FT := fun ds s => if ds.length = n then (match body (ds.map some ++ List.replicate (N - n) none) s with
  | .fl (.rt d) s1 => .ok d s1
  | .fl (.nx _) s1 => .ok .non s1
  | .ex x _ s1 => .ex x s1
  | _ => .no) else .no
theorem RelDs.start {w : Wd} {H : Hp} {c : Ct} {ds : List D} {vs : List V} (h : RelDs w H c ds vs) (N : List Str) : RelEnv w H c (ds.map some ++ List.replicate (N.length - ds.length) none) (L2.start N vs) := by
  have l := h.length
  refine ⟨by simp [L2.start, l], fun i d e => ?_⟩
  unfold L2.start
  by_cases hi : i < ds.length
  · rw [List.getElem?_append_left (by simpa using hi), List.getElem?_map] at e
    rw [List.getElem?_append_left (by simp; omega), List.getElem?_map]
    cases z : ds[i]? with
    | none => rw [z] at e; cases e
    | some x =>
      rw [z] at e
      cases e
      obtain ⟨v, hv, r⟩ := h.get z
      exact ⟨v, by rw [hv]; rfl, r⟩
  · rw [List.getElem?_append_right (by simpa using hi), List.getElem?_replicate] at e
    split at e <;> cases e
section
variable {P : Program} {w : World} {K : PySem.W.Frag} {mg : Str → Option Value} {base : Heap}
theorem mfun_len {N n : Nat} {body : SM} {ds : List D} {s : Sto} {d : D} {s' : Sto} (h : ds.length ≠ n) : mFun N n body ds s = .no := if_neg h
/-- a def that raises nothing keeps its mirror -/
theorem fn_mir {x qual : Str} {st : Stmt} {f : Addr} {fd : FuncData} {N ps : List Str} {k : Nat} {body : SM} (F : Fun K x qual st f fd) (S : FnScope N ps (defScope st))
    (hb : ∀ (cdv : Value) (A : Around) (outer : List PySem.Env) (s : Shared) (H : Hp) (E : XK), Room k (A.deeper (envOfC qual (defScope st) s.heap.objs.size f cdv)) →
      MSs (cxOf CX0 P w K mg base N qual (defScope st) f cdv A outer s H E).nox E00 (defBody st) body) : FnOk P w K mg base CX0 (k + 1) f fd ps (spM ⟨K, mg⟩ (mFun N.length ps.length body)) := by
  refine F.ok S (fun vs H Q E h => ?_) (fun cdv A outer s H vs Q E hr h => ⟨_, hb cdv A outer s H E hr, ?_⟩)
  · obtain ⟨c, ds, g, r, q⟩ := h
    rw [← r.length]
    by_cases e : ds.length = ps.length
    · exact e
    · rw [mfun_len e (d := .non) (s' := [])] at q; exact q.elim
  · obtain ⟨c, ds, g, r, q⟩ := h
    by_cases e : ds.length = ps.length
    · refine ⟨c, _, g, r.start N, ?_⟩
      rw [mFun, if_pos e] at q
      rw [← e] at q
      cases z : body (ds.map some ++ List.replicate (N.length - ds.length) none) c.S with
      | no => rw [z] at q; exact q.elim
      | ex x en S1 => rw [z] at q; exact fun c' H' cls dd st' e' g' s' re' rx => q c' H' cls dd e' g' s' rx
      | fl fl S1 =>
        rw [z] at q
        intro c1 H1 e1 g1 s1
        cases fl with
        | nx en => exact fun st' re' => q c1 H1 e1 g1 s1 _ .non
        | rt d => exact fun v rv => q c1 H1 e1 g1 s1 v rv
        | bk en => exact q.elim
        | ct en => exact q.elim
    · rw [mfun_len e (d := .non) (s' := [])] at q; exact q.elim
end
end Mi
end
section
set_option maxRecDepth 100000
set_option maxHeartbeats 1000000
namespace Mi
open PySem L2 PyProof.Rows
section
variable {prog : Program} {w : World} {A : Around} {E : Value → Shared → Prop} {s : Shared}
/-! an empty tuple, any number of times, is itself -/
theorem mul_empty (l : Addr) (n : Nat) (dd : Option Addr) (sl : Array (Option Value)) (x : Int) (u : Tok) (c0 : (decide (x < -(2 ^ 63)) || decide (x ≥ 2 ^ 63)) = false) :
    Meets (Builtin.«tuple.__mul__» ⟨[.ref l, .int x u], []⟩)
      (fun _ R s => s.heap.get? l = some { cls := .type "tuple", dict := dd, data := .seq #[] n, slots := sl } ∧ R (.ok (.ret (Value.ref l))) s) :=
  .of_wp fun prog w A R s h => by
    obtain ⟨hp, g, d, tk, os⟩ := s
    obtain ⟨hl, h⟩ := h
    have f1 := AutoSeq1.idx_int
    wp_walk using wpAny_loadPart' hl
    refine wpAny_ite_false (decide_eq_false (by rw [c0]; exact Bool.false_ne_true)) ?_
    wp_walk using wpAny_loadPart' hl
    exact ⟨_, rfl, h⟩
theorem mul_tup0 {X : Cx} {pins : List (Addr × Obj)} {σ : L2.St} {H : Hp} {s : Shared} {a : Addr} {k : Int} {t : Tok} {Q : VK} (I : Inv X pins σ H s) (ht : SqT X.K H a []) (h1 : -(2 ^ 63) ≤ k) (h2 : k < 2 ^ 63) (q : Q (.ref a) H) :
    wpAny (model X.prog X.w) X.A (binaryOp .Mult (.ref a) (.int k t)) (EP X pins σ Q) X.xe s := by
  obtain ⟨its, r, ⟨⟨cls, dd, data, sl⟩, ho, hc, n, hd⟩, hs⟩ := I.tuple ht
  cases r
  simp only at hc hd
  subst hc hd
  refine wpAny_binaryOp_repeat_ref (T := "tuple") (U := "int") (by decide) ⟨_, ho, rfl⟩
    (fun s' => typeIs_int s' k t) noFill_tuple_mul PySem.F.fills_int_mul PySem.F.slot_int_rmul
    repeat_tuple PySem.F.slot_int_index.lookup ?_
  refine call_meets PySem.F.slot_int_rmul (typeIs_int s k t) PySem.F.entry_int_rmul
    (PySem.F.args_int_rmul_2 _ _) (int_rmul_tuple k t a #[] n dd sl) ⟨ho, rfl, ⟨_, ho, rfl⟩, ?_⟩
  refine call_meets PySem.F.slot_tuple_mul ⟨_, ho, rfl⟩ PySem.F.entry_tuple_mul
    (PySem.F.args_tuple_mul_2 _ _) (mul_empty a n dd sl k t ?_) ⟨ho, ⟨.ref a, H, I, rfl, q⟩⟩
  rw [decide_eq_false (by omega), decide_eq_false (by omega)]
  rfl
/-! t[::-1] of a tuple -/
theorem slice_applied_back {sl : Addr} {vl vu vs : Value} {n : Nat} {Q : Int × Int × Nat → Shared → Prop} (hs : s.heap.IsSliceOf sl vl vu vs) (pl : IsPart vl none) (pu : IsPart vu none) (ps : IsPart vs (some (-1)))
    (h : Q ((n : Int) - 1, -1, n) s) : wpAny (model prog w) A (Builtin.Slice.sliceApplied (.ref sl) (pure (n : Int))) Q E s := by
  obtain ⟨os, hos, hcs, hds⟩ := id hs
  cases pl; cases pu
  unfold Builtin.Slice.sliceApplied Builtin.Slice.sliceFields
  refine wpAny_bind (wpAny_bind (wpAny_field hos hds (x := .none) rfl ?_))
  refine wpAny_bind (wpAny_field hos hds (x := .none) rfl ?_)
  refine wpAny_bind (wpAny_field hos hds (x := vs) rfl (wpAny_pure ?_))
  refine wpAny_bind (HT.slicePart_ ps ?_)
  show wpAny _ _ (if ((-1 : Int) == 0) = true then _ else _) _ _ s
  rw [if_neg (by decide)]
  refine wpAny_bind (HT.slicePart_ .none ?_)
  refine wpAny_bind (HT.slicePart_ .none ?_)
  refine wpAny_bind (wpAny_pure ?_)
  have e : Builtin.Slice.sliceAdjust none none (-1) (n : Int) = ((n : Int) - 1, -1) := by
    unfold Builtin.Slice.sliceAdjust
    simp
  have p : Builtin.Slice.slicePlaces ((n : Int) - 1) (-1) (-1) = n := by
    unfold Builtin.Slice.slicePlaces
    simp
    omega
  show wpAny _ _ (match Builtin.Slice.sliceAdjust none none (-1) (n : Int) with | (lo, hi) => pure (lo, (-1 : Int), Builtin.Slice.slicePlaces lo hi (-1))) _ _ s
  rw [e]
  show wpAny _ _ (pure ((n : Int) - 1, (-1 : Int), Builtin.Slice.slicePlaces ((n : Int) - 1) (-1) (-1))) _ _ s
  rw [p]
  exact wpAny_pure h
theorem pick_back (xs : Array Value) : ((List.range xs.size).filterMap fun (m : Nat) => xs[((xs.size : Int) - 1 + (m : Int) * (-1)).toNat]?).toArray = xs.toList.reverse.toArray := by
  obtain ⟨l⟩ := xs
  simp only [List.size_toArray]
  congr 1
  have key : ∀ (k : List Nat), (∀ m ∈ k, m < l.length) → k.filterMap (fun (m : Nat) => (Array.mk l)[((l.length : Int) - 1 + (m : Int) * (-1)).toNat]?) = k.map (fun (m : Nat) => l.reverse.getD m Value.none) := by
    intro k
    induction k with
    | nil => intro _; rfl
    | cons m k ih =>
      intro h
      have hm : m < l.length := h m List.mem_cons_self
      have e : ((l.length : Int) - 1 + (m : Int) * (-1)).toNat = l.length - 1 - m := by omega
      have hr : m < l.reverse.length := by simpa using hm
      have f : (Array.mk l)[((l.length : Int) - 1 + (m : Int) * (-1)).toNat]? = some (l.reverse.getD m Value.none) := by
        rw [e, List.getD_eq_getElem?_getD, List.getElem?_eq_getElem hr, List.getElem_reverse]
        have : (Array.mk l)[l.length - 1 - m]? = l[l.length - 1 - m]? := by simp
        rw [this, List.getElem?_eq_getElem (by omega)]
        rfl
      rw [List.filterMap_cons, f, List.map_cons, ih fun x hx => h x (List.mem_cons_of_mem _ hx)]
  rw [key _ fun m hm => List.mem_range.mp hm]
  apply List.ext_getElem?
  intro j
  rw [List.getElem?_map]
  by_cases hj : j < l.length
  · have hr : j < l.reverse.length := by simpa using hj
    rw [List.getElem?_range hj, List.getElem?_eq_getElem hr]
    show some (l.reverse.getD j Value.none) = _
    rw [List.getD_eq_getElem?_getD, List.getElem?_eq_getElem hr]
    rfl
  · rw [List.getElem?_eq_none (by simpa using hj), List.getElem?_eq_none (by simpa using hj)]
    rfl
theorem getItem_tuple_back {t sl : Addr} {items : Array Value} {vl vu vs : Value} {Q : Value → Shared → Prop} (ht : IsTup s.heap t items) (hs : s.heap.IsSliceOf sl vl vu vs) (pl : IsPart vl none) (pu : IsPart vu none) (ps : IsPart vs (some (-1)))
    (h : Q (.ref s.heap.objs.size) { s with heap := s.heap.push { cls := .type "tuple", data := .seq items.toList.reverse.toArray } })
    (hsz : items.size ≤ sizeLine) : wpAny (model prog w) A (getItem (.ref t) (.ref sl)) Q E s := by
  have hz : sizeOk (.seq items.toList.reverse.toArray) := by
    show items.toList.reverse.toArray.size ≤ sizeLine
    rw [List.size_toArray, List.length_reverse, Array.length_toList]
    exact hsz
  obtain ⟨os, hos, hcs, hds⟩ := id hs
  have hT : s.TypeIs (.ref sl) "slice" := ⟨os, hos, hcs⟩
  unfold getItem
  with_reducible refine wpAny_holding ?_
  refine wpAny_bind (wpAny_sequenceKey ht.typeIs (by decide) ?_)
  refine wpAny_bind (wpAny_callSpecial?_slot (name := Str.ofString "__getitem__") ht.typeIs slot_tuple_getitem ?_)
  refine wpAny_call_entry slot_tuple_getitem ht.typeIs PyProof.Rows.entry_tuple_getitem ?_ (PyProof.Rows.args_tuple_getitem _ _)
  show wpAny _ _ (Builtin.Tuple.tupleItemsOf (.ref t) >>= _) _ _ s
  refine wpAny_bind (PyProof.Rows.tupleItemsOf_ ht ?_)
  refine wpAny_bind (wpAny_typeOf hT ?_)
  rw [if_pos (by decide)]
  refine wpAny_bind (slice_applied_back hs pl pu ps ?_)
  have hno : ¬ ((((items.size : Int) - 1) == 0 && (-1 : Int) == 1 && items.size == items.size) = true) := by
    intro q
    rw [Bool.and_eq_true, Bool.and_eq_true] at q
    exact absurd q.1.2 (by decide)
  show wpAny _ _ (if (((items.size : Int) - 1) == 0 && (-1 : Int) == 1 && items.size == items.size) = true then _ else _) _ _ s
  rw [if_neg hno, pick_back]
  exact wpAny_bind (m := Builtin.Tuple.tupleExact _) (wpAny_newObj_type (wpAny_pure ⟨_, rfl, wpAny_pure h⟩) hz)
end
section
variable {X : Cx} {E : L2.St → XK} {e : Expr} {fa : ET} {k : Nat} {p1 p2 p3 pos : Pos}
def tRevT (K : PySem.W.Frag) (te : TE) : TE := fun st H Q => te st H fun x H1 => ∃ a xs, x = .ref a ∧ SqT K H1 a xs ∧ ∀ p, H1 p = none → Q (.ref p) (upd H1 p (.tup xs.reverse))
theorem pe_revT {te : TE} (he : PE X e te) : PE X (.Subscript e (.Slice none none (some (.UnaryOp .USub (.Constant (.int 1) k p1) p2)) p3) pos) (tRevT X.K te) := by
  refine ⟨fun pins s σ H Q I h => ?_⟩
  refine Subscript_ (thn (he.run pins s σ H _ I h) fun v s1 ⟨x, H1, I1, r1, q1⟩ => ?_)
  obtain ⟨a, xs, ex, hx, q⟩ := q1
  subst ex
  cases r1
  have hst : PO X (some (.UnaryOp .USub (.Constant (.int 1) k p1) p2)) (tPart (tUn (rU fun i => .int (-i)) (tC (.int 1)))) := po_some (pe_un un_neg pe_int)
  refine wpAny_Slice (thn (po_none.run pins s1 σ H1 (fun o H2 => o = none ∧ H2 = H1) I1 ⟨rfl, rfl⟩) ?_)
  intro vl s2 ⟨l, H2, I2, pl, el, e2⟩
  subst el e2
  refine thn (po_none.run pins s2 σ H2 (fun o H3 => o = none ∧ H3 = H2) I2 ⟨rfl, rfl⟩) ?_
  intro vu s3 ⟨u, H3, I3, pu, eu, e3⟩
  subst eu e3
  refine thn (hst.run pins s3 σ H3 (fun o H4 => o = some (-1) ∧ H4 = H3) I3 ⟨1, rfl, -1, rfl, rfl, rfl⟩) ?_
  intro vs s4 ⟨o, H4, I4, ps, eo, e4⟩
  subst eo e4
  have I5 : Inv X pins σ H4 { s4 with heap := s4.heap.push { cls := .type "slice", data := .fields #[vl, vu, vs] } } :=
    I4.kept (t' := s4.toks) fun b ob q => Heap.get?_push_of_some _ q
  obtain ⟨its, r, ht, hz⟩ := I5.tuple hx
  have hlen := r.length
  show wpAny _ _ (subscriptTail e (.Slice none none (some (.UnaryOp .USub (.Constant (.int 1) k p1) p2)) p3) (.ref a) (.ref s4.heap.objs.size)) _ _ _
  refine tail_any (ops := [.ref a, .ref s4.heap.objs.size]) ht.typeIs slot_tuple_getitem.lookup ?_ (by with_unfolding_all rfl)
  refine getItem_tuple_back ht (Heap.IsSliceOf.new _ vl vu vs) pl pu ps ?_ (by rw [List.size_toArray]; omega)
  refine ⟨.ref _, _, I5.laid (t' := s4.toks) (o := .tup xs.reverse) (fun b ob q => Heap.get?_push_of_some _ q) (Nat.le_refl _) ?_, rfl, q _ (I5.hok.fresh (Nat.le_refl _))⟩
  exact ⟨by rw [List.length_reverse]; exact hz, _, r.reverse, IsTup.new _ _⟩
/-- t[::-1] -/
def mRevT (fa : ET) : ET := fun env s => (fa env s).bind fun d s1 => match d with
  | .tup xs => .ok (.tup xs.reverse) s1
  | _ => .no
theorem me_revT (he : ME X E e fa) : ME X E (.Subscript e (.Slice none none (some (.UnaryOp .USub (.Constant (.int 1) k p1) p2)) p3) pos) (mRevT fa) := PE.imp (pe_revT he) fun st H Q ⟨c, env, g, re, q⟩ => by
  refine ⟨c, env, g, re, (Fin.bind q).mono fun d c1 H1 e1 g1 q1 v rv => ?_⟩
  cases d with
  | tup xs =>
    obtain ⟨a, vs, rfl, hq, rs⟩ := tup_ok rv
    exact ⟨a, vs, rfl, hq, fun p hp => q1.new g1 rfl hp _ (ft_new g1 hp rs.reverse)⟩
  | _ => exact q1.elim
end
end Mi
end
section
set_option maxRecDepth 100000
set_option maxHeartbeats 1000000
namespace Mi
open PySem L2 PyProof.Rows
/-! ### data without refs, as the library reads them -/
mutual
def pyD : D → Option PyData
  | .non => some .none
  | .bl b => some (.bool b)
  | .int i => some (.int i)
  | .str x => some (.str x)
  | .tup xs => match pyDs xs with
    | some ds => some (.tuple ds)
    | none => none
  | .lst xs => match pyDs xs with
    | some ds => some (.list ds)
    | none => none
  | _ => none
def pyDs : List D → Option (List PyData)
  | [] => some []
  | d :: r => match pyD d, pyDs r with
    | some x, some xs => some (x :: xs)
    | _, _ => none
end
section
variable {w : Wd} {H : Hp} {c : Ct}
mutual
theorem pyD_ok : ∀ {d : D} {v : V} {x : PyData}, RelD w H c d v → pyD d = some x → Dp w.K H v x
  | _, _, _, .non, h => by simp [pyD] at h; subst h; exact .non
  | _, _, _, .bl b, h => by simp [pyD] at h; subst h; exact .bl b
  | _, _, _, .int i, h => by simp [pyD] at h; subst h; exact .int i
  | _, _, _, .str x _, h => by simp [pyD] at h; subst h; exact .str x
  | _, _, _, @RelD.tup _ _ _ a xs vs hs rs, h => by
    simp only [pyD] at h
    cases z : pyDs xs with
    | none => rw [z] at h; cases h
    | some ds => rw [z] at h; cases h; exact .tup hs.sq (pyDs_ok rs z)
  | _, _, _, @RelD.lst _ _ _ a xs vs hs rs, h => by
    simp only [pyD] at h
    cases z : pyDs xs with
    | none => rw [z] at h; cases h
    | some ds => rw [z] at h; cases h; exact .lst hs.sq (pyDs_ok rs z)
  | _, _, _, .dic _ _ _, h => by simp [pyD] at h
  | _, _, _, .ins _ _ _ _, h => by simp [pyD] at h
  | _, _, _, .ref _, h => by simp [pyD] at h
  | _, _, _, .scr _, h => by simp [pyD] at h
theorem pyDs_ok : ∀ {ds : List D} {vs : List V} {xs : List PyData}, RelDs w H c ds vs → pyDs ds = some xs → DpAll w.K H vs xs
  | _, _, _, .nil, h => by simp [pyDs] at h; subst h; exact .nil
  | _, _, _, @RelDs.cons _ _ _ d ds v vs r t, h => by
    simp only [pyDs] at h
    cases z : pyD d with
    | none => rw [z] at h; cases h
    | some x =>
      cases z2 : pyDs ds with
      | none => rw [z, z2] at h; cases h
      | some xs => rw [z, z2] at h; cases h; exact .cons (pyD_ok r z) (pyDs_ok t z2)
end
/-- a list or tuple, numbered or not, with all its parts data -/
def pyA (s : Sto) (d : D) : Option PyData := match asL s d with
  | some xs => match pyDs xs with
    | some ds => some (.list ds)
    | none => none
  | none => pyD d
theorem pyA_ok {d : D} {v : V} {x : PyData} (g : Good w H c) (r : RelD w H c d v) (h : pyA c.S d = some x) : Dp w.K H v x := by
  unfold pyA at h
  split at h
  · rename_i xs z
    obtain ⟨a, vs, rfl, hq, rs⟩ := asL_sq g r z
    split at h
    · rename_i ds z2
      cases h
      exact .lst hq (pyDs_ok rs z2)
    · cases h
  · exact pyD_ok r h
end
def b2n (b : Bool) : Int := if b then 1 else 0
section
variable {X : Cx}
theorem OpR.or {f : Value → Value → Sem Value} {r r' : R2} (h : OpR X f r) (h' : OpR X f r') : OpR X f (fun x y H Q => r x y H Q ∨ r' x y H Q) := by
  intro pins s σ H x y v u Q I rx ry q
  rcases q with q | q
  · exact h pins s σ H x y v u Q I rx ry q
  · exact h' pins s σ H x y v u Q I rx ry q
/-! ### + -/
def opAdd : Op2 := fun s d e => match d, e with
  | .int i, .int j => some (.int (i + j))
  | .bl b, .int j => some (.int (b2n b + j))
  | .int i, .bl b => some (.int (i + b2n b))
  | .str x, .str y => if x.length + y.length ≤ sizeLine then some (.str (x ++ y)) else none
  | .tup xs, .tup ys => if xs.length + ys.length ≤ sizeLine then some (.tup (xs ++ ys)) else none
  | d, e => match asL s d, asL s e with
    | some xs, some ys => if xs.length + ys.length ≤ sizeLine then some (.lst (xs ++ ys)) else none
    | _, _ => none
theorem str_len_app (x y : Str) : (x ++ y).length = x.length + y.length := by
  show (x.cps ++ y.cps).size = x.cps.size + y.cps.size
  exact Array.size_append
section
variable {pins : List (Addr × Obj)} {s : Shared} {σ : L2.St} {H : Hp} {x y : V} {v u : Value} {Q : VK} {c : Ct}
theorem op_add_M : OpM X (binaryOp .Add) opAdd := by
  intro pins s σ H x y v u Q I rx ry h
  obtain ⟨c, d, e, z, g, rd, re, hz, q⟩ := h
  have here := q H (Ext.refl c H) g
  have lists : ∀ xs ys, asL c.S d = some xs → asL c.S e = some ys → (if xs.length + ys.length ≤ sizeLine then some (D.lst (xs ++ ys)) else none) = some z → wpAny (model X.prog X.w) X.A (binaryOp .Add v u) (EP X pins σ Q) X.xe s := by
    intro xs ys z1 z2 hz
    split at hz
    · rename_i hl
      cases hz
      obtain ⟨a, vs, rfl, ha, r1⟩ := asL_ok g rd z1
      obtain ⟨b, us, rfl, hb, r2⟩ := asL_ok g re z2
      exact op_cat pins s σ H _ _ v u Q I rx ry ⟨a, b, vs, us, rfl, rfl, ha, hb, by rw [← r1.length, ← r2.length]; exact hl, fun p hp => q _ (Ext.fresh g hp) (g.fresh hp) _ (fz_new g hp (r1.append r2))⟩
    · cases hz
  unfold opAdd at hz
  split at hz
  · cases hz; cases rd; cases re
    exact op_add pins s σ H _ _ v u Q I rx ry ⟨_, _, rfl, rfl, here _ (.int _)⟩
  · cases hz; cases rd; cases re
    cases rx; obtain ⟨t, rfl⟩ := ry
    exact PySem.IntBool.add_bool_int ⟨.int _, H, I.tok _, ⟨_, rfl⟩, here _ (.int _)⟩
  · cases hz; cases rd; cases re
    exact op_add_ib pins s σ H _ _ v u Q I rx ry ⟨_, _, rfl, rfl, here _ (.int _)⟩
  · split at hz
    · rename_i hl
      cases hz; cases rd; cases re
      exact op_add_str pins s σ H _ _ v u Q I rx ry ⟨_, _, rfl, rfl, hl, here _ (.str _ (by rw [str_len_app]; exact hl))⟩
    · cases hz
  · split at hz
    · rename_i xs ys hl
      cases hz
      obtain ⟨a, vs, rfl, ha, r1⟩ := tup_ok rd
      obtain ⟨b, us, rfl, hb, r2⟩ := tup_ok re
      refine op_catA pins s σ H _ _ v u Q I rx ry ⟨a, b, vs, us, rfl, rfl, ha, hb, by rw [← r1.length, ← r2.length]; exact hl, fun z => ?_, fun _ z => ?_, fun _ _ p hp => q _ (Ext.fresh g hp) (g.fresh hp) _ (ft_new g hp (r1.append r2))⟩
      · subst z; cases r1; exact here _ re
      · subst z; cases r2; rw [List.append_nil] at here; exact here _ rd
    · cases hz
  · split at hz
    · rename_i xs ys z1 z2
      exact lists xs ys z1 z2 hz
    · cases hz
end
/-! ### -, *, //, %, ** of whole numbers; * of texts, tuples, lists -/
def opSub : Op2 := fun _ d e => match d, e with
  | .int i, .int j => some (.int (i - j))
  | .int i, .bl b => some (.int (i - b2n b))
  | .bl b, .int i => some (.int (b2n b - i))
  | _, _ => none
theorem op_sub_M : OpM X (binaryOp .Sub) opSub := by
  intro pins s σ H x y v u Q I rx ry h
  obtain ⟨c, d, e, z, g, rd, re, hz, q⟩ := h
  have here := q H (Ext.refl c H) g
  unfold opSub at hz
  split at hz
  · cases hz; cases rd; cases re
    exact op_sub pins s σ H _ _ v u Q I rx ry ⟨_, _, rfl, rfl, here _ (.int _)⟩
  · cases hz; cases rd; cases re
    cases ry; obtain ⟨t, rfl⟩ := rx
    exact PySem.IntBool.sub_int_bool ⟨.int _, H, I.tok _, ⟨_, rfl⟩, here _ (.int _)⟩
  · cases hz; cases rd; cases re
    cases rx; obtain ⟨t, rfl⟩ := ry
    exact PySem.IntBool.sub_bool_int ⟨.int _, H, I.tok _, ⟨_, rfl⟩, here _ (.int _)⟩
  · cases hz
def repS (x : Str) (n : Nat) : Str := ⟨(List.replicate n x.cps).foldl (· ++ ·) #[]⟩
def opMul : Op2 := fun s d e => match d, e with
  | .int i, .int j => if (-(2 ^ 64) < i ∧ i < 2 ^ 64) ∨ (-(2 ^ 64) < j ∧ j < 2 ^ 64) then some (.int (i * j)) else none
  | .str x, .int k => if 2 ≤ k ∧ k ≤ 1000 ∧ x.length ≤ 1000 then some (.str (repS x k.toNat)) else none
  | .tup xs, .int k => if xs = [] ∧ 0 ≤ k ∧ k ≤ 1000 then some (.tup []) else if xs ≠ [] ∧ 2 ≤ k ∧ k ≤ 1000 ∧ xs.length ≤ 1000 then some (.tup (List.replicate k.toNat xs).flatten) else none
  | d, .int k => match asL s d with
    | some xs => if 0 ≤ k ∧ k ≤ 1000 ∧ xs.length ≤ 1000 then some (.lst (List.replicate k.toNat xs).flatten) else none
    | none => none
  | _, _ => none
theorem RelDs.rep {w : Wd} {H : Hp} {c : Ct} {ds : List D} {vs : List V} (h : RelDs w H c ds vs) : ∀ n : Nat, RelDs w H c (List.replicate n ds).flatten (List.replicate n vs).flatten
  | 0 => .nil
  | n + 1 => by
    rw [List.replicate_succ, List.replicate_succ, List.flatten_cons, List.flatten_cons]
    exact h.append (RelDs.rep h n)
theorem repS_len (x : Str) (n : Nat) : (repS x n).length = n * x.length := by
  have key : ∀ (n : Nat) (a : Array Nat), ((List.replicate n x.cps).foldl (· ++ ·) a).size = a.size + n * x.cps.size := by
    intro n
    induction n with
    | zero => intro a; simp
    | succ n ih => intro a; rw [List.replicate_succ, List.foldl_cons, ih, Array.size_append, Nat.succ_mul]; omega
  have := key n #[]
  simpa [repS, Str.length] using this
theorem repS_nil (x : Str) (n : Nat) (h : x.length = 0) : repS x n = x := by
  obtain ⟨a⟩ := x
  have e : a = #[] := Array.eq_empty_of_size_eq_zero h
  subst e
  have key : ∀ n : Nat, (List.replicate n (#[] : Array Nat)).foldl (· ++ ·) #[] = #[] := by
    intro n
    induction n with
    | zero => rfl
    | succ n ih => rw [List.replicate_succ, List.foldl_cons]; simpa using ih
  unfold repS
  rw [key]
theorem op_mul_M : OpM X (binaryOp .Mult) opMul := by
  intro pins s σ H x y v u Q I rx ry h
  obtain ⟨c, d, e, z, g, rd, re, hz, q⟩ := h
  have here := q H (Ext.refl c H) g
  unfold opMul at hz
  split at hz
  · split at hz
    · rename_i hl
      cases hz; cases rd; cases re
      exact op_mul pins s σ H _ _ v u Q I rx ry ⟨_, _, rfl, rfl, hl, here _ (.int _)⟩
    · cases hz
  · split at hz
    · rename_i x k hl
      cases hz; cases rd with | str _ hx => ?_
      cases re
      obtain ⟨t, rfl⟩ := rx
      obtain ⟨t', rfl⟩ := ry
      have hs : sizeLine = 16777216 := sizeLine_eq
      have lr := repS_len x k.toNat
      have hle : k.toNat * x.length ≤ 1000 * 1000 := Nat.mul_le_mul (by omega) hl.2.2
      have fin : RelD (Wx X) H c (.str (repS x k.toNat)) (.str (repS x k.toNat)) := .str _ (by omega)
      refine PySem.P.mul_str (by rw [decide_eq_false (by omega), decide_eq_false (by omega)]; rfl) (fun _ _ => ?_) (fun _ _ => ?_) ?_
      · have : (1000 : Int) ≤ (2 ^ 63 - 1) / k := by
          rw [Int.le_ediv_iff_mul_le (by omega)]
          omega
        omega
      · have hc : x.length * k.toNat ≤ 1000000 := by rw [Nat.mul_comm]; omega
        unfold Builtin.Str.tooLong
        simp only [decide_eq_false_iff_not]
        omega
      · rw [if_neg (by omega)]
        split
        · rename_i hc
          have h0 : x.length = 0 := by
            rw [Bool.or_eq_true] at hc
            rcases hc with hc | hc
            · exact absurd (eq_of_beq hc) (by omega)
            · exact eq_of_beq hc
          rw [repS_nil x _ h0] at here fin
          exact ⟨.str x, H, I, ⟨t, rfl⟩, here _ fin⟩
        · exact ⟨by show (repS x k.toNat).length ≤ sizeLine; omega, ⟨.str _, H, I.tok _, ⟨_, rfl⟩, here _ fin⟩⟩
    · cases hz
  · rename_i xs k
    split at hz
    · rename_i he
      obtain ⟨he, hk⟩ := he
      subst he
      cases hz
      obtain ⟨a, vs, rfl, hq, rs⟩ := tup_ok rd
      cases rs
      cases re
      cases rx
      obtain ⟨t', rfl⟩ := ry
      exact mul_tup0 I hq (by omega) (by omega) (here _ rd)
    · split at hz
      · rename_i _ hl
        obtain ⟨hne, hl⟩ := hl
        cases hz
        obtain ⟨a, vs, rfl, hq, rs⟩ := tup_ok rd
        cases re
        have hlen := rs.length
        refine op_repT pins s σ H _ _ v u Q I rx ry ⟨a, k, vs, rfl, rfl, hq, ?_, hl.1, hl.2.1, by omega, fun p hp => q _ (Ext.fresh g hp) (g.fresh hp) _ (ft_new g hp (rs.rep _))⟩
        intro z
        subst z
        cases rs
        exact hne rfl
      · cases hz
  · split at hz
    · rename_i xs z1
      split at hz
      · rename_i hl
        cases hz
        obtain ⟨a, vs, rfl, ha, r1⟩ := asL_ok g rd z1
        cases re
        have hlen := r1.length
        have hs : sizeLine = 16777216 := sizeLine_eq
        refine op_rep pins s σ H _ _ v u Q I rx ry ⟨a, _, vs, rfl, rfl, ha, by omega, by omega, ?_, fun p hp => q _ (Ext.fresh g hp) (g.fresh hp) _ (fz_new g hp (r1.rep _))⟩
        exact Nat.le_trans (Nat.mul_le_mul (show vs.length ≤ 1000 by omega) (show _ ≤ 1000 by omega)) (by omega)
      · cases hz
    · cases hz
  · cases hz
end
end Mi
end
section
set_option maxRecDepth 100000
set_option maxHeartbeats 1000000
namespace Mi
open PySem L2 PyProof.Rows
section
variable {X : Cx} {E : L2.St → XK}
def opDiv : Op2 := fun _ d e => match d, e with
  | .int i, .int j => if 0 < j ∧ j < 1073741824 then some (.int (i / j)) else none
  | _, _ => none
theorem op_div_M : OpM X (binaryOp .FloorDiv) opDiv := by
  intro pins s σ H x y v u Q I rx ry h
  obtain ⟨c, d, e, z, g, rd, re, hz, q⟩ := h
  have here := q H (Ext.refl c H) g
  unfold opDiv at hz
  split at hz
  · split at hz
    · rename_i hl
      cases hz; cases rd; cases re
      exact op_fdiv pins s σ H _ _ v u Q I rx ry ⟨_, _, rfl, rfl, hl, here _ (.int _)⟩
    · cases hz
  · cases hz
def opMod : Op2 := fun _ d e => match d, e with
  | .int i, .int j => if 0 < j then some (.int (i % j)) else none
  | _, _ => none
theorem op_mod_M : OpM X (binaryOp .Mod) opMod := by
  intro pins s σ H x y v u Q I rx ry h
  obtain ⟨c, d, e, z, g, rd, re, hz, q⟩ := h
  have here := q H (Ext.refl c H) g
  unfold opMod at hz
  split at hz
  · split at hz
    · rename_i hl
      cases hz; cases rd; cases re
      exact op_mod pins s σ H _ _ v u Q I rx ry ⟨_, _, rfl, rfl, hl, here _ (.int _)⟩
    · cases hz
  · cases hz
def opPow : Op2 := fun _ d e => match d, e with
  | .int i, .int j => if 0 ≤ j ∧ (Builtin.Int.intBits i : Int) * j ≤ 2 ^ 27 then some (.int (i ^ j.toNat)) else none
  | _, _ => none
theorem op_pow_M : OpM X (binaryOp .Pow) opPow := by
  intro pins s σ H x y v u Q I rx ry h
  obtain ⟨c, d, e, z, g, rd, re, hz, q⟩ := h
  have here := q H (Ext.refl c H) g
  unfold opPow at hz
  split at hz
  · split at hz
    · rename_i hl
      cases hz; cases rd; cases re
      obtain ⟨t, rfl⟩ := rx
      obtain ⟨t', rfl⟩ := ry
      exact pow_int hl.1 hl.2 ⟨.int _, H, I.tok _, ⟨_, rfl⟩, here _ (.int _)⟩
    · cases hz
  · cases hz
/-- comparisons of whole numbers, of texts -/
def cmpI (p : Int → Int → Bool) (pt : List Nat → List Nat → Bool) : Op2 := fun _ d e => match d, e with
  | .int i, .int j => some (.bl (p i j))
  | .str x, .str y => some (.bl (pt x.cps.toList y.cps.toList))
  | _, _ => none
abbrev opLt : Op2 := cmpI (fun i j => decide (i < j)) (fun a b => decide (a < b))
abbrev opLe : Op2 := cmpI (fun i j => decide (i ≤ j)) (fun a b => !decide (b < a))
abbrev opGt : Op2 := cmpI (fun i j => decide (j < i)) (fun a b => decide (b < a))
abbrev opGe : Op2 := cmpI (fun i j => decide (j ≤ i)) (fun a b => !decide (a < b))
theorem cmp_M {f : Value → Value → Sem Value} {p : Int → Int → Bool} {pt : List Nat → List Nat → Bool} (h1 : OpR X f (rI0 fun i j => .bl (p i j))) (h2 : OpR X f (fun x y H Q => ∃ i j, x = .str i ∧ y = .str j ∧ Q (.bl (pt i.cps.toList j.cps.toList)) H)) : OpM X f (cmpI p pt) := by
  intro pins s σ H x y v u Q I rx ry h
  obtain ⟨c, d, e, z, g, rd, re, hz, q⟩ := h
  have here := q H (Ext.refl c H) g
  unfold cmpI at hz
  split at hz
  · cases hz; cases rd; cases re
    exact h1 pins s σ H _ _ v u Q I rx ry ⟨_, _, rfl, rfl, here _ (.bl _)⟩
  · cases hz; cases rd; cases re
    exact h2 pins s σ H _ _ v u Q I rx ry ⟨_, _, rfl, rfl, here _ (.bl _)⟩
  · cases hz
theorem op_lt_M : OpM X (compareOp .Lt) opLt := cmp_M op_lt op_lt_str
theorem op_le_M : OpM X (compareOp .LtE) opLe := cmp_M op_le op_le_str
theorem op_gt_M : OpM X (compareOp .Gt) opGt := cmp_M op_gt op_gt_str
theorem op_ge_M : OpM X (compareOp .GtE) opGe := cmp_M op_ge op_ge_str
/-- == of data -/
def opEq : Op2 := fun s d e => match pyA s d, pyA s e with
  | some x, some y => if SeqAt.shaped x = true ∧ SeqAt.shaped y = true then some (.bl (PyData.eqv x y)) else none
  | _, _ => none
def opNe : Op2 := fun s d e => match pyA s d, pyA s e with
  | some x, some y => if SeqAt.shaped x = true ∧ SeqAt.shaped y = true then some (.bl (!PyData.eqv x y)) else none
  | _, _ => none
theorem op_eq_M (hu : X.A.units + 64 < cLine) : OpM X (compareOp .Eq) opEq := by
  intro pins s σ H x y v u Q I rx ry h
  obtain ⟨c, d, e, z, g, rd, re, hz, q⟩ := h
  have here := q H (Ext.refl c H) g
  unfold opEq at hz
  split at hz
  · rename_i a b za zb
    split at hz
    · rename_i hs
      cases hz
      exact op_eqD hu pins s σ H _ _ v u Q I rx ry ⟨a, b, pyA_ok g rd za, pyA_ok g re zb, hs.1, hs.2, here _ (.bl _)⟩
    · cases hz
  · cases hz
theorem op_ne_M (hu : X.A.units + 64 < cLine) : OpM X (compareOp .NotEq) opNe := by
  intro pins s σ H x y v u Q I rx ry h
  obtain ⟨c, d, e, z, g, rd, re, hz, q⟩ := h
  have here := q H (Ext.refl c H) g
  unfold opNe at hz
  split at hz
  · rename_i a b za zb
    split at hz
    · rename_i hs
      cases hz
      exact op_neD hu pins s σ H _ _ v u Q I rx ry ⟨a, b, pyA_ok g rd za, pyA_ok g re zb, hs.1, hs.2, here _ (.bl _)⟩
    · cases hz
  · cases hz
/-- is None -/
def isNonD : D → Bool
  | .non => true
  | _ => false
theorem isNonD_ok {w : Wd} {H : Hp} {c : Ct} {d : D} {v : V} (r : RelD w H c d v) : decide (v = .non) = isNonD d := by
  cases r <;> simp [isNonD]
def opIs : Op2 := fun _ d e => match e with
  | .non => some (.bl (isNonD d))
  | _ => none
def opIsNot : Op2 := fun _ d e => match e with
  | .non => some (.bl (!isNonD d))
  | _ => none
theorem op_is_M : OpM X (compareOp .Is) opIs := by
  intro pins s σ H x y v u Q I rx ry h
  obtain ⟨c, d, e, z, g, rd, re, hz, q⟩ := h
  have here := q H (Ext.refl c H) g
  unfold opIs at hz
  split at hz
  · cases hz; cases re
    exact op_isN pins s σ H _ _ v u Q I rx ry ⟨rfl, by rw [isNonD_ok rd]; exact here _ (.bl _)⟩
  · cases hz
theorem op_isnot_M : OpM X (compareOp .IsNot) opIsNot := by
  intro pins s σ H x y v u Q I rx ry h
  obtain ⟨c, d, e, z, g, rd, re, hz, q⟩ := h
  have here := q H (Ext.refl c H) g
  unfold opIsNot at hz
  split at hz
  · cases hz; cases re
    exact op_notN pins s σ H _ _ v u Q I rx ry ⟨rfl, by rw [isNonD_ok rd]; exact here _ (.bl _)⟩
  · cases hz
/-- in: one sign in a text; data in a list -/
def inB (s : Sto) (d e : D) : Option Bool := match d, e with
  | .str x, .str y => match x.cps.toList with
    | [k] => some (decide (k ∈ y.cps.toList))
    | _ => some (!(Builtin.Str.occurrences y x 0 y.length 1).isEmpty)
  | d, e => match asL s e with
    | some xs => match pyDs xs, pyD d with
      | some ds, some y => if SeqAt.shaped y = true ∧ SeqAt.shaped (.list ds) = true then some (ds.any fun z => PyData.eqv z y) else none
      | _, _ => none
    | none => none
def opIn : Op2 := fun s d e => (inB s d e).map .bl
def opNotIn : Op2 := fun s d e => (inB s d e).map fun b => .bl (!b)
theorem one_sign {x : Str} {k : Nat} (h : x.cps.toList = [k]) : x = ⟨#[k]⟩ := by
  obtain ⟨a⟩ := x
  congr 1
  apply Array.ext'
  simpa using h
theorem op_in_M (hu : X.A.units + 65 < cLine) : OpM X (compareOp .In) opIn := by
  intro pins s σ H x y v u Q I rx ry h
  obtain ⟨c, d, e, z, g, rd, re, hz, q⟩ := h
  have here := q H (Ext.refl c H) g
  unfold opIn at hz
  cases hb : inB c.S d e with
  | none => rw [hb] at hz; cases hz
  | some b =>
    rw [hb] at hz
    cases hz
    have fin := here _ (.bl b)
    unfold inB at hb
    split at hb
    · cases rd; cases re
      split at hb
      · rename_i x y k hk
        cases hb
        have e := one_sign hk
        subst e
        exact op_in_sign pins s σ H _ _ v u Q I rx ry ⟨k, _, rfl, rfl, fin⟩
      · cases hb
        exact op_in_str pins s σ H _ _ v u Q I rx ry ⟨_, _, rfl, rfl, fin⟩
    · split at hb
      · rename_i xs zx
        split at hb
        · rename_i ds yd zd zy
          split at hb
          · rename_i hs
            cases hb
            obtain ⟨a, vs, rfl, ha, r1⟩ := asL_sq g re zx
            exact op_inD hu pins s σ H _ _ v u Q I rx ry ⟨yd, ds, pyD_ok rd zy, .lst ha (pyDs_ok r1 zd), hs.1, hs.2, fin⟩
          · cases hb
        · cases hb
      · cases hb
theorem op_notIn_M (hu : X.A.units + 65 < cLine) : OpM X (compareOp .NotIn) opNotIn := by
  intro pins s σ H x y v u Q I rx ry h
  obtain ⟨c, d, e, z, g, rd, re, hz, q⟩ := h
  have here := q H (Ext.refl c H) g
  unfold opNotIn at hz
  cases hb : inB c.S d e with
  | none => rw [hb] at hz; cases hz
  | some b =>
    rw [hb] at hz
    cases hz
    have fin := here _ (.bl (!b))
    unfold inB at hb
    split at hb
    · cases rd; cases re
      split at hb
      · rename_i x y k hk
        cases hb
        have e := one_sign hk
        subst e
        exact op_notIn_sign pins s σ H _ _ v u Q I rx ry ⟨k, _, rfl, rfl, fin⟩
      · cases hb
        exact op_notIn_str pins s σ H _ _ v u Q I rx ry ⟨_, _, rfl, rfl, fin⟩
    · split at hb
      · rename_i xs zx
        split at hb
        · rename_i ds yd zd zy
          split at hb
          · rename_i hs
            cases hb
            obtain ⟨a, vs, rfl, ha, r1⟩ := asL_sq g re zx
            exact op_notInD hu pins s σ H _ _ v u Q I rx ry ⟨yd, ds, pyD_ok rd zy, .lst ha (pyDs_ok r1 zd), hs.1, hs.2, fin⟩
          · cases hb
        · cases hb
      · cases hb
/-- -x -/
def unNeg : Sto → D → Option D := fun _ d => match d with
  | .int i => some (.int (-i))
  | .bl b => some (.int (-(b2n b)))
  | _ => none
theorem gives_neg_bool (b : Bool) : Gives (Builtin.«int.__neg__» ⟨[.bool b], []⟩) (.int (-(b2n b))) := by
  cases b <;> exact .of_eq rfl
theorem un_neg_M : UnR X (unaryOp .USub) (rU1 (Wx X) unNeg) := by
  intro pins s σ H x v Q I rx h
  obtain ⟨c, d, z, g, rd, hz, q⟩ := h
  have here := q H (Ext.refl c H) g
  unfold unNeg at hz
  split at hz
  · cases hz; cases rd
    exact un_neg pins s σ H _ v Q I rx ⟨_, rfl, here _ (.int _)⟩
  · rename_i b
    cases hz; cases rd; cases rx
    exact unaryOp_gives (op := .USub) (T := "bool") rfl rfl PySem.F.slot_bool_neg PySem.F.entry_int_neg (PySem.F.args_int_neg_1 _) (gives_neg_bool b) ⟨.int _, H, I.tok _, ⟨_, rfl⟩, here _ (.int _)⟩
  · cases hz
end
end Mi
end
section
set_option maxRecDepth 100000
set_option maxHeartbeats 1000000
namespace Mi
open PySem L2 PyProof.Rows
theorem RelDs.map_int {w : Wd} {H : Hp} {c : Ct} {ns : List Int} {vs : List V} (h : RelDs w H c (ns.map .int) vs) : vs = ns.map V.int := by
  induction ns generalizing vs with
  | nil => cases h; rfl
  | cons n ns ih => cases h with | cons r t => cases r; rw [ih t]; rfl
theorem RelDs.map_bl {w : Wd} {H : Hp} {c : Ct} {ns : List Bool} {vs : List V} (h : RelDs w H c (ns.map .bl) vs) : vs = ns.map V.bl := by
  induction ns generalizing vs with
  | nil => cases h; rfl
  | cons n ns ih => cases h with | cons r t => cases r; rw [ih t]; rfl
theorem RelDs.map_str {w : Wd} {H : Hp} {c : Ct} {ns : List Str} {vs : List V} (h : RelDs w H c (ns.map .str) vs) : vs = ns.map V.str := by
  induction ns generalizing vs with
  | nil => cases h; rfl
  | cons n ns ih => cases h with | cons r t => cases r; rw [ih t]; rfl
def allBl : List D → Option (List Bool)
  | [] => some []
  | .bl b :: r => (allBl r).map (b :: ·)
  | _ :: _ => none
def allInt : List D → Option (List Int)
  | [] => some []
  | .int b :: r => (allInt r).map (b :: ·)
  | _ :: _ => none
def allStr : List D → Option (List Str)
  | [] => some []
  | .str b :: r => (allStr r).map (b :: ·)
  | _ :: _ => none
theorem allBl_eq : ∀ {xs : List D} {bs : List Bool}, allBl xs = some bs → xs = bs.map .bl
  | [], bs, h => by cases h; rfl
  | d :: r, bs, h => by
    cases d with
    | bl b =>
      simp only [allBl] at h
      cases z : allBl r with
      | none => rw [z] at h; cases h
      | some cs => rw [z] at h; cases h; rw [allBl_eq z]; rfl
    | _ => simp [allBl] at h
theorem allInt_eq : ∀ {xs : List D} {bs : List Int}, allInt xs = some bs → xs = bs.map .int
  | [], bs, h => by cases h; rfl
  | d :: r, bs, h => by
    cases d with
    | int b =>
      simp only [allInt] at h
      cases z : allInt r with
      | none => rw [z] at h; cases h
      | some cs => rw [z] at h; cases h; rw [allInt_eq z]; rfl
    | _ => simp [allInt] at h
theorem allStr_eq : ∀ {xs : List D} {bs : List Str}, allStr xs = some bs → xs = bs.map .str
  | [], bs, h => by cases h; rfl
  | d :: r, bs, h => by
    cases d with
    | str b =>
      simp only [allStr] at h
      cases z : allStr r with
      | none => rw [z] at h; cases h
      | some cs => rw [z] at h; cases h; rw [allStr_eq z]; rfl
    | _ => simp [allStr] at h
theorem allBl_map (bs : List Bool) : allBl (bs.map .bl) = some bs := by
  induction bs with
  | nil => rfl
  | cons b r ih => simp [allBl, ih]
theorem allInt_map (bs : List Int) : allInt (bs.map .int) = some bs := by
  induction bs with
  | nil => rfl
  | cons b r ih => simp [allInt, ih]
theorem allStr_map (bs : List Str) : allStr (bs.map .str) = some bs := by
  induction bs with
  | nil => rfl
  | cons b r ih => simp [allStr, ih]
section
variable {X : Cx} {E : L2.St → XK} {pos : Pos} {a b : Expr} {fa fb fv : ET}
/-! ### len -/
def cbLen : Cb := fun s ds => match ds with
  | [.str x] => some (.int x.length)
  | [.tup xs] => some (.int xs.length)
  | [.scr ns] => some (.int ns.length)
  | [d] => (asL s d).map fun xs => .int xs.length
  | _ => none
theorem cb_len : CbM X (.builtin "len") cbLen := by
  intro pins s σ H xs us Q I r h
  obtain ⟨c, ds, z, g, rd, hz, q⟩ := h
  have here := q H (Ext.refl c H) g
  unfold cbLen at hz
  split at hz
  · cases hz
    cases rd with | cons r1 rn => cases rn; cases r1 with | str x hx => exact call_len pins s σ H _ us Q I r ⟨_, _, rfl, ⟨hx, rfl⟩, here _ (.int _)⟩
  · cases hz
    cases rd with
    | cons r1 rn =>
      cases rn
      obtain ⟨a, vs, rfl, hq, rs⟩ := tup_ok r1
      exact call_len pins s σ H _ us Q I r ⟨_, _, rfl, .inr ⟨vs, hq, rs.length⟩, here _ (.int _)⟩
  · cases hz
    cases rd with
    | cons r1 rn =>
      cases rn
      cases r1 with
      | scr hq => exact call_len pins s σ H _ us Q I r ⟨_, _, rfl, .inl ⟨_, hq.sq, by simp⟩, here _ (.int _)⟩
  · rename_i d _ _ _
    cases rd with
    | cons r1 rn =>
      cases rn
      cases z1 : asL c.S d with
      | none => rw [z1] at hz; cases hz
      | some ys =>
        rw [z1] at hz
        cases hz
        obtain ⟨a, vs, rfl, hq, rs⟩ := asL_sq g r1 z1
        exact call_len pins s σ H _ us Q I r ⟨_, _, rfl, .inl ⟨vs, hq, rs.length⟩, here _ (.int _)⟩
  · cases hz
/-! ### all, any -/
def cbAll : Cb := fun s ds => match ds with
  | [d] => ((asL s d).bind allBl).map fun bs => .bl (bs.all id)
  | _ => none
def cbAny : Cb := fun s ds => match ds with
  | [d] => ((asL s d).bind allBl).map fun bs => .bl (bs.any id)
  | _ => none
theorem cb_all (hc : X.calm = true) : CbM X (.builtin "all") cbAll := by
  intro pins s σ H xs us Q I r h
  obtain ⟨c, ds, z, g, rd, hz, q⟩ := h
  have here := q H (Ext.refl c H) g
  unfold cbAll at hz
  split at hz
  · rename_i d
    cases rd with
    | cons r1 rn =>
      cases rn
      cases z1 : asL c.S d with
      | none => rw [z1] at hz; cases hz
      | some ys =>
        rw [z1] at hz
        cases z2 : allBl ys with
        | none => simp [z2] at hz
        | some bs =>
          simp only [Option.bind_some, z2, Option.map_some, Option.some.injEq] at hz
          subst hz
          have e := allBl_eq z2
          subst e
          obtain ⟨a, vs, rfl, hq, rs⟩ := asL_sq g r1 z1
          have e := rs.map_bl
          subst e
          exact cr_all hc pins s σ H _ us Q I r ⟨a, bs, rfl, hq, here _ (.bl _)⟩
  · cases hz
theorem cb_any (hc : X.calm = true) : CbM X (.builtin "any") cbAny := by
  intro pins s σ H xs us Q I r h
  obtain ⟨c, ds, z, g, rd, hz, q⟩ := h
  have here := q H (Ext.refl c H) g
  unfold cbAny at hz
  split at hz
  · rename_i d
    cases rd with
    | cons r1 rn =>
      cases rn
      cases z1 : asL c.S d with
      | none => rw [z1] at hz; cases hz
      | some ys =>
        rw [z1] at hz
        cases z2 : allBl ys with
        | none => simp [z2] at hz
        | some bs =>
          simp only [Option.bind_some, z2, Option.map_some, Option.some.injEq] at hz
          subst hz
          have e := allBl_eq z2
          subst e
          obtain ⟨a, vs, rfl, hq, rs⟩ := asL_sq g r1 z1
          have e := rs.map_bl
          subst e
          exact cr_any hc pins s σ H _ us Q I r ⟨a, bs, rfl, hq, here _ (.bl _)⟩
  · cases hz
/-! ### abs, max, min, int, str, repr -/
def cbAbs : Cb := fun _ ds => match ds with
  | [.int i] => some (.int (if i < 0 then -i else i))
  | _ => none
theorem cb_abs : CbM X (.builtin "abs") cbAbs := by
  intro pins s σ H xs us Q I r h
  obtain ⟨c, ds, z, g, rd, hz, q⟩ := h
  have here := q H (Ext.refl c H) g
  unfold cbAbs at hz
  split at hz
  · cases hz
    cases rd with | cons r1 rn => cases rn; cases r1; exact call_abs pins s σ H _ us Q I r ⟨_, rfl, here _ (.int _)⟩
  · cases hz
def maxI : List Int → Int
  | [] => 0
  | [x] => x
  | x :: r => if maxI r ≤ x then x else maxI r
theorem maxI_max : ∀ (l : List Int), l ≠ [] → maxI l ∈ l ∧ ∀ y ∈ l, y ≤ maxI l
  | [], h => absurd rfl h
  | [x], _ => by simp [maxI]
  | x :: y :: r, _ => by
    obtain ⟨h1, h2⟩ := maxI_max (y :: r) (by simp)
    rw [maxI]
    split
    · rename_i hx
      refine ⟨by simp, fun z hz => ?_⟩
      rcases List.mem_cons.mp hz with rfl | hz
      · exact Int.le_refl _
      · exact Int.le_trans (h2 z hz) hx
    · rename_i hx
      refine ⟨List.mem_cons_of_mem _ h1, fun z hz => ?_⟩
      rcases List.mem_cons.mp hz with rfl | hz
      · omega
      · exact h2 z hz
    all_goals simp
def cbMax : Cb := fun s ds => match ds with
  | [.int i, .int j] => some (.int (if j > i then j else i))
  | [d] => match (asL s d).bind allInt with
    | some (n :: ns) => some (.int (maxI (n :: ns)))
    | _ => none
  | _ => none
theorem cb_max (hc : X.calm = true) : CbM X (.builtin "max") cbMax := by
  intro pins s σ H xs us Q I r h
  obtain ⟨c, ds, z, g, rd, hz, q⟩ := h
  have here := q H (Ext.refl c H) g
  unfold cbMax at hz
  split at hz
  · cases hz
    cases rd with
    | cons r1 rn => cases r1; cases rn with | cons r2 rn => cases r2; cases rn; exact call_max2 hc pins s σ H _ us Q I r ⟨_, _, rfl, here _ (.int _)⟩
  · rename_i d
    cases rd with
    | cons r1 rn =>
      cases rn
      split at hz
      · rename_i n ns zz
        cases hz
        cases z1 : asL c.S d with
        | none => rw [z1] at zz; cases zz
        | some ys =>
          rw [z1] at zz
          have e := allInt_eq (show allInt ys = some (n :: ns) from zz)
          subst e
          obtain ⟨a, vs, rfl, hq, rs⟩ := asL_sq g r1 z1
          have e := rs.map_int
          subst e
          refine cr_max hc pins s σ H _ us Q I r ⟨a, n :: ns, rfl, hq, by simp, fun m hm hle => ?_⟩
          obtain ⟨h1, h2⟩ := maxI_max (n :: ns) (by simp)
          have : m = maxI (n :: ns) := Int.le_antisymm (h2 m hm) (hle _ h1)
          subst this
          exact here _ (.int _)
      · cases hz
  · cases hz
def cbMin : Cb := fun _ ds => match ds with
  | [.int i, .int j] => some (.int (if j < i then j else i))
  | _ => none
theorem cb_min (hc : X.calm = true) : CbM X (.builtin "min") cbMin := by
  intro pins s σ H xs us Q I r h
  obtain ⟨c, ds, z, g, rd, hz, q⟩ := h
  have here := q H (Ext.refl c H) g
  unfold cbMin at hz
  split at hz
  · cases hz
    cases rd with
    | cons r1 rn => cases r1; cases rn with | cons r2 rn => cases r2; cases rn; exact call_min2 hc pins s σ H _ us Q I r ⟨_, _, rfl, here _ (.int _)⟩
  · cases hz
def cbInt : Cb := fun _ ds => match ds with
  | [.int i] => some (.int i)
  | [.bl k] => some (.int (if k then 1 else 0))
  | _ => none
theorem cb_int : CbM X (.type "int") cbInt := by
  intro pins s σ H xs us Q I r h
  obtain ⟨c, ds, z, g, rd, hz, q⟩ := h
  have here := q H (Ext.refl c H) g
  unfold cbInt at hz
  split at hz
  · cases hz
    cases rd with | cons r1 rn => cases rn; cases r1; exact call_int1 pins s σ H _ us Q I r (.inl ⟨_, rfl, here _ (.int _)⟩)
  · cases hz
    cases rd with | cons r1 rn => cases rn; cases r1; exact call_int1 pins s σ H _ us Q I r (.inr ⟨_, rfl, here _ (.int _)⟩)
  · cases hz
def boolStr (b : Bool) : Str := if b then "True" else "False"
def cbStr : Cb := fun _ ds => match ds with
  | [.int i] => if i.natAbs.log2 < 1920 ∧ (toString i : Str).length ≤ sizeLine then some (.str (toString i)) else none
  | [.bl k] => some (.str (boolStr k))
  | _ => none
theorem boolStr_len (k : Bool) : (boolStr k).length ≤ sizeLine := by cases k <;> decide
theorem cb_str : CbM X (.type "str") cbStr := by
  intro pins s σ H xs us Q I r h
  obtain ⟨c, ds, z, g, rd, hz, q⟩ := h
  have here := q H (Ext.refl c H) g
  unfold cbStr at hz
  split at hz
  · split at hz
    · rename_i hl
      cases hz
      cases rd with | cons r1 rn => cases rn; cases r1; exact call_str_int pins s σ H _ us Q I r ⟨_, rfl, hl.1, here _ (.str _ hl.2)⟩
    · cases hz
  · cases hz
    cases rd with
    | cons r1 rn =>
      cases rn; cases r1
      obtain ⟨u, rfl, rv⟩ := Vals.one r
      cases rv
      exact PySem.P.str_of_bool ⟨.str _, H, I.tok _, ⟨_, rfl⟩, here _ (.str _ (boolStr_len _))⟩
  · cases hz
def cbRepr : Cb := fun _ ds => match ds with
  | [.bl k] => some (.str (boolStr k))
  | _ => none
theorem cb_repr : CbM X (.builtin "repr") cbRepr := by
  intro pins s σ H xs us Q I r h
  obtain ⟨c, ds, z, g, rd, hz, q⟩ := h
  have here := q H (Ext.refl c H) g
  unfold cbRepr at hz
  split at hz
  · cases hz
    cases rd with
    | cons r1 rn =>
      cases rn; cases r1
      obtain ⟨u, rfl, rv⟩ := Vals.one r
      cases rv
      exact PySem.P.repr_of_bool ⟨.str _, H, I.tok _, ⟨_, rfl⟩, here _ (.str _ (boolStr_len _))⟩
  · cases hz
/-! ### tuple, list -/
def cbTuple : Cb := fun s ds => match ds with
  | [.tup xs] => some (.tup xs)
  | [d] => (asL s d).map .tup
  | _ => none
theorem cb_tuple : CbM X (.type "tuple") cbTuple := by
  intro pins s σ H xs us Q I r h
  obtain ⟨c, ds, z, g, rd, hz, q⟩ := h
  have here := q H (Ext.refl c H) g
  unfold cbTuple at hz
  split at hz
  · cases hz
    cases rd with
    | cons r1 rn =>
      cases rn
      obtain ⟨a, vs, rfl, hq, rs⟩ := tup_ok r1
      exact call_tuple_of pins s σ H _ us Q I r ⟨a, vs, rfl, .inr ⟨hq, here _ r1⟩⟩
  · rename_i d _
    cases rd with
    | cons r1 rn =>
      cases rn
      cases z1 : asL c.S d with
      | none => rw [z1] at hz; cases hz
      | some ys =>
        rw [z1] at hz
        cases hz
        obtain ⟨a, vs, rfl, hq, rs⟩ := asL_sq g r1 z1
        exact call_tuple_of pins s σ H _ us Q I r ⟨a, vs, rfl, .inl ⟨hq, fun p hp => q _ (Ext.fresh g hp) (g.fresh hp) _ (ft_new g hp rs)⟩⟩
  · cases hz
def cbList : Cb := fun s ds => match ds with
  | [.tup xs] => some (.lst xs)
  | [d] => (asL s d).map .lst
  | _ => none
theorem cb_list : CbM X (.type "list") cbList := by
  intro pins s σ H xs us Q I r h
  obtain ⟨c, ds, z, g, rd, hz, q⟩ := h
  have here := q H (Ext.refl c H) g
  unfold cbList at hz
  split at hz
  · cases hz
    cases rd with
    | cons r1 rn =>
      cases rn
      obtain ⟨a, vs, rfl, hq, rs⟩ := tup_ok r1
      exact call_list_of pins s σ H _ us Q I r ⟨a, vs, rfl, .inr hq, fun p hp => q _ (Ext.fresh g hp) (g.fresh hp) _ (fz_new g hp rs)⟩
  · rename_i d _
    cases rd with
    | cons r1 rn =>
      cases rn
      cases z1 : asL c.S d with
      | none => rw [z1] at hz; cases hz
      | some ys =>
        rw [z1] at hz
        cases hz
        obtain ⟨a, vs, rfl, hq, rs⟩ := asL_sq g r1 z1
        exact call_list_of pins s σ H _ us Q I r ⟨a, vs, rfl, .inl hq, fun p hp => q _ (Ext.fresh g hp) (g.fresh hp) _ (fz_new g hp rs)⟩
  · cases hz
/-! ### isinstance of a built-in class -/
def tyName (s : Sto) : D → Option String
  | .non => some "NoneType"
  | .bl _ => some "bool"
  | .int _ => some "int"
  | .str _ => some "str"
  | .tup _ => some "tuple"
  | .lst _ => some "list"
  | .dic _ => some "dict"
  | .ref n => match s[n]? with
    | some (.lst _ _) => some "list"
    | some (.dic _ _) => some "dict"
    | _ => none
  | _ => none
theorem tyX_rd {K : PySem.W.Frag} {H : Hp} {a : Addr} {kvs : List (Key × V)} (h : Rd H a (.dK kvs)) : TyX K H (.ref a) (.type "dict") := by
  rcases h with h | ⟨o, h⟩
  · exact .base (.dK h)
  · exact .fDict h
theorem tyName_ok {w : Wd} {H : Hp} {c : Ct} {d : D} {v : V} {n : String} (g : Good w H c) (r : RelD w H c d v) (h : tyName c.S d = some n) : TyX w.K H v (.type n) := by
  cases r with
  | non => cases h; exact .base .non
  | bl b => cases h; exact .base (.bl b)
  | int i => cases h; exact .base (.int i)
  | str x _ => cases h; exact .base (.str x)
  | tup hs _ =>
    cases h
    rcases hs with ⟨hs | ⟨o, hs⟩, _⟩ | ⟨o, its, n, hk, hc, _⟩
    · exact .base (.tup hs)
    · exact .fTuple hs
    · exact .kTuple hk hc
  | lst hs _ => cases h; exact .base (.lst hs.1)
  | dic hs _ _ => cases h; exact tyX_rd hs
  | ins => simp [tyName] at h
  | scr => simp [tyName] at h
  | @ref m a hn =>
    simp only [tyName] at h
    cases e : c.S[m]? with
    | none => rw [e] at h; cases h
    | some o =>
      rw [e] at h
      obtain ⟨ho, q, ro⟩ := g.obj m a o hn e
      cases ro with
      | lst rs => cases h; exact .base (.lst q)
      | dic rs h1 h2 =>
        cases h
        exact tyX_rd (rd_of_unf q h1 rfl)
      | ins => cases h
def isiD (T : String) (s : Sto) (d : D) : Option D := match tyName s d with
  | some n => (kitB n T).map .bl
  | none => none
theorem me_isi {T : String} {x y : Str} {p p2 : Pos} (hg : Gl X x) (hm : X.mg x = none) (hv : bootBuiltins x = some (.builtin "isinstance")) (hg2 : Gl X y) (hm2 : X.mg y = none) (hv2 : bootBuiltins y = some (.type T)) (ha : ME X E a fa)
    (hn : x ≠ "__name__" := by decide) (hdb : (x == ("__debug__" : Str)) = false := by decide) (hn2 : y ≠ "__name__" := by decide) (hdb2 : (y == ("__debug__" : Str)) = false := by decide)
    (he : starEach [a, .Name y p2] X.env = (false, eval a X.env) :: starEach [.Name y p2] X.env := by rfl) (he2 : starEach [.Name y p2] X.env = (false, eval (.Name y p2) X.env) :: starEach [] X.env := by rfl)
    (hpl : (backTo pos (starEach [.Name y p2] X.env)).any (·.1) = false := by rfl) : ME X E (.Call (.Name x p) [a, .Name y p2] [] pos) (mUn (isiD T) fa) := by
  refine PE.imp (pe_callB call_isi hg hm hv (pa_cons ha (pa_cons (pe_bltn (v := .ty T) hg2 hm2 hv2 rfl hn2 hdb2) pa_nil he2) he) hn hdb he hpl) fun st H Q ⟨c, env, g, re, q⟩ => ?_
  refine ⟨c, env, g, re, (Fin.bind q).mono fun d c1 H1 e1 g1 q1 v rv => ?_⟩
  show rIsi X.K [v, .ty T] H1 Q
  cases z : tyName c1.S d with
  | none => simp only [isiD, z] at q1; exact q1.elim
  | some n =>
    cases z2 : kitB n T with
    | none => simp only [isiD, z, z2] at q1; exact q1.elim
    | some b =>
      simp only [isiD, z, z2] at q1
      exact ⟨v, .ty T, .type n, .type T, b, rfl, .ty T, tyName_ok g1 rv z, kit_ty z2, q1.here g1 rfl _ (.bl b)⟩
/-! ### subscripts -/
def opIx : Op2 := fun s d e => match e with
  | .int i => match d with
    | .tup xs => atI xs i
    | .str x => (atI x.cps.toList i).map fun k => .str ⟨#[k]⟩
    | .scr ns => (atI ns i).map .int
    | d => (asL s d).bind fun xs => atI xs i
  | _ => none
theorem RelDs.at {w : Wd} {H : Hp} {c : Ct} {ds : List D} {vs : List V} {i : Int} {d : D} (h : RelDs w H c ds vs) (e : atI ds i = some d) : ∃ v, atI vs i = some v ∧ RelD w H c d v := by
  unfold atI at e ⊢
  rw [← h.length]
  cases z : ixN ds.length i with
  | none => rw [z] at e; cases e
  | some j => rw [z] at e; exact h.get e
theorem ix_M : IxR X (rO (Wx X) opIx) := by
  intro value slice pins s σ H x y v u Q I rx ry h hs
  obtain ⟨c, d, e, z, g, rd, re, hz, q⟩ := h
  have here := q H (Ext.refl c H) g
  unfold opIx at hz
  split at hz
  · cases re
    split at hz
    · obtain ⟨a, vs, rfl, hq, rs⟩ := tup_ok rd
      obtain ⟨v', hv, rv⟩ := rs.at hz
      exact ix_seq value slice pins s σ H _ _ v u Q I rx ry (.inr (.inl ⟨a, vs, _, v', rfl, rfl, hq, hv, here _ rv⟩)) hs
    · rename_i x
      cases rd with
      | str _ hx =>
        cases z1 : atI x.cps.toList _ with
        | none => rw [z1] at hz; cases hz
        | some k =>
          rw [z1] at hz
          cases hz
          exact ix_seq value slice pins s σ H _ _ v u Q I rx ry (.inr (.inr ⟨x, _, k, rfl, rfl, hx, z1, here _ (.str _ (show 1 ≤ sizeLine by decide))⟩)) hs
    · rename_i ns
      cases rd with
      | scr hq =>
        cases z1 : atI ns _ with
        | none => rw [z1] at hz; cases hz
        | some k =>
          rw [z1] at hz
          cases hz
          refine ix_seq value slice pins s σ H _ _ v u Q I rx ry (.inl ⟨_, _, _, .int k, rfl, rfl, hq.sq, ?_, here _ (.int _)⟩) hs
          unfold atI at z1 ⊢
          rw [List.length_map]
          cases z2 : ixN ns.length _ with
          | none => rw [z2] at z1; cases z1
          | some j =>
            rw [z2] at z1
            show (ns.map V.int)[j]? = some (.int k)
            rw [List.getElem?_map, show ns[j]? = some k from z1]; rfl
    · cases z1 : asL c.S d with
      | none => rw [z1] at hz; cases hz
      | some ys =>
        rw [z1] at hz
        obtain ⟨a, vs, rfl, hq, rs⟩ := asL_sq g rd z1
        obtain ⟨v', hv, rv⟩ := rs.at hz
        exact ix_seq value slice pins s σ H _ _ v u Q I rx ry (.inl ⟨a, vs, _, v', rfl, rfl, hq, hv, here _ rv⟩) hs
  · cases hz
/-! ### slices -/
def cutD (xs : List D) (lo hi : Option Int) : List D := (xs.drop (HT.sIx xs.length 0 lo)).take (HT.sIx xs.length xs.length hi - HT.sIx xs.length 0 lo)
def slD (s : Sto) (d : D) (lo hi : Option Int) : Option D := match d with
  | .tup xs => some (.tup (cutD xs lo hi))
  | .str x => some (.str (cutS x lo hi))
  | d => (asL s d).map fun xs => .lst (cutD xs lo hi)
theorem RelDs.cut {w : Wd} {H : Hp} {c : Ct} {ds : List D} {vs : List V} (h : RelDs w H c ds vs) (lo hi : Option Int) : RelDs w H c (cutD ds lo hi) (cutV vs lo hi) := by
  unfold cutD cutV
  rw [h.length]
  exact (h.drop _).take _
theorem cutS_le (x : Str) (lo hi : Option Int) : (cutS x lo hi).length ≤ x.length := cutS_length x lo hi
theorem sl_M : SlR X (rS1 (Wx X) slD) := by
  intro pins s σ H x v vl vu lo hi sl Q I rx hs pl pu h
  obtain ⟨c, d, z, g, rd, hz, q⟩ := h
  have here := q H (Ext.refl c H) g
  unfold slD at hz
  split at hz
  · cases hz
    obtain ⟨a, vs, rfl, hq, rs⟩ := tup_ok rd
    refine sl_tupA pins s σ H _ v vl vu lo hi sl Q I rx hs pl pu ⟨a, vs, rfl, hq, fun hw => ?_, fun _ p hp => q _ (Ext.fresh g hp) (g.fresh hp) _ (ft_new g hp (rs.cut lo hi))⟩
    refine here _ ?_
    rename_i xs
    have e : cutD xs lo hi = xs := by
      unfold cutD
      rw [rs.length, hw.1, hw.2, List.drop_zero, Nat.sub_zero, ← rs.length, List.take_length]
    rw [e]
    exact rd
  · cases hz
    cases rd with
    | str _ hx => exact sl_str pins s σ H _ v vl vu lo hi sl Q I rx hs pl pu ⟨_, rfl, hx, here _ (.str _ (Nat.le_trans (cutS_le _ lo hi) hx))⟩
  · cases z1 : asL c.S d with
    | none => rw [z1] at hz; cases hz
    | some ys =>
      rw [z1] at hz
      cases hz
      obtain ⟨a, vs, rfl, hq, rs⟩ := asL_sq g rd z1
      exact sl_list pins s σ H _ v vl vu lo hi sl Q I rx hs pl pu ⟨a, vs, rfl, hq, fun p hp => q _ (Ext.fresh g hp) (g.fresh hp) _ (fz_new g hp (rs.cut lo hi))⟩
/-! ### xs[i] = e -/
def sSetIx (fv fo fi : ET) : SM := fun env s => (fv env s).st env fun v s1 => (fo env s1).st env fun o s2 => (fi env s2).st env fun i s3 => match o, i with
  | .ref n, .int k => match s3[n]? with
    | some (.lst true xs) => match ixN xs.length k with
      | some j => .fl (.nx env) (s3.set n (.lst true (xs.set j v)))
      | none => .no
    | _ => .no
  | _, _ => .no
theorem ms_setIx {o i e : Expr} {fo fi : ET} {ipos : Pos} (he : ME X E e fv) (ho : ME X E o fo) (hi : ME X E i fi)
    (ha : ∀ v, assign (.Subscript o i ipos) X.env v = (do
      let ov ← holding [v] (eval o X.env)
      let iv ← holding [v, ov] (eval i X.env)
      standAt ipos
      holding [v, ov, iv] (setItem ov iv v)
      release [v, ov, iv] []) := by intro _; rfl)
    (hs : swapsWithSole [.Subscript o i ipos] e pos.line X.env = pure false := by rfl) (hw : swappedStores [.Subscript o i ipos] e X.env = pure none := by rfl)
    (h1 : (assignEach [.Subscript o i ipos] X.env).map (·.2) = [assign (.Subscript o i ipos) X.env] := by rfl) : MS X E (.Assign [.Subscript o i ipos] e pos) (sSetIx fv fo fi) :=
  PS.imp (ps_asg he (pg_sub ho hi set_list ha) hs hw h1) fun En st H ⟨c, env, g, re, q⟩ => by
    refine ⟨c, env, g, re, (FinS.of_st re q).mono fun d c1 H1 e1 g1 q1 v rv => ?_⟩
    refine ⟨c1, env, g1, re.ext e1, (FinS.of_st (re.ext e1) q1).mono fun d2 c2 H2 e2 g2 q2 v2 rv2 => ?_⟩
    refine ⟨c2, env, g2, (re.ext e1).ext e2, (FinS.of_st ((re.ext e1).ext e2) q2).mono fun d3 c3 H3 e3 g3 q3 v3 rv3 => ?_⟩
    split at q3
    · rename_i n k
      split at q3
      · rename_i xs zx
        split at q3
        · rename_i j zj
          cases rv3
          have r2 := rv2.ext e3
          cases r2 with
          | @ref _ a hn =>
            obtain ⟨ho, hq, ro⟩ := g3.obj n a _ hn zx
            cases ro with
            | @lst _ _ vs rs =>
              refine ⟨a, vs, k, j, rfl, rfl, hq, by rw [← rs.length]; exact zj, ?_⟩
              have ex : Ext c3 H3 (c3.put n (.lst true (xs.set j d))) (upd H3 a (.lst (vs.set j v))) := Ext.wrote g3 hn zx rfl
              exact q3 (c3.put n (.lst true (xs.set j d))) _ ex (g3.wrote hn zx rfl (.lst ((rs.set ((rv.ext e2).ext e3)).ext ex))) rfl st ((((re.ext e1).ext e2).ext e3).ext ex)
        · exact q3.elim
      · exact q3.elim
    · exact q3.elim
/-! ### texts' methods -/
def mbUpper : Mb := fun _ d ds => match d, ds with
  | .str x, [] => if x.length ≤ 5592405 ∧ (Txt.upper x).length ≤ sizeLine then some (.str (Txt.upper x)) else none
  | _, _ => none
theorem mb_upper : MbM X "str.upper" mbUpper := by
  intro pins s σ H x xs v us Q I rx rs h
  obtain ⟨c, d, ds, z, g, rd, rds, hz, q⟩ := h
  have here := q H (Ext.refl c H) g
  unfold mbUpper at hz
  split at hz
  · split at hz
    · rename_i hl
      cases hz; cases rd; cases rds
      exact mt_upper pins s σ H _ _ v us Q I rx rs ⟨_, rfl, rfl, hl.1, here _ (.str _ hl.2)⟩
    · cases hz
  · cases hz
def mbJoin : Mb := fun s d ds => match d, ds with
  | .str x, [e] => match (asL s e).bind allStr with
    | some ys => if (ys.map (·.length)).sum + ys.length * x.length ≤ 16777216 ∧ (Txt.join x ys).length ≤ sizeLine then some (.str (Txt.join x ys)) else none
    | none => none
  | _, _ => none
theorem mb_join : MbM X "str.join" mbJoin := by
  intro pins s σ H x xs v us Q I rx rs h
  obtain ⟨c, d, ds, z, g, rd, rds, hz, q⟩ := h
  have here := q H (Ext.refl c H) g
  unfold mbJoin at hz
  split at hz
  · rename_i x e
    split at hz
    · rename_i ys zz
      split at hz
      · rename_i hl
        cases hz; cases rd
        cases rds with
        | cons r1 rn =>
          cases rn
          cases z1 : asL c.S e with
          | none => rw [z1] at zz; cases zz
          | some zs =>
            rw [z1] at zz
            have e := allStr_eq (show allStr zs = some ys from zz)
            subst e
            obtain ⟨a, vs, rfl, hq, rs'⟩ := asL_sq g r1 z1
            have e := rs'.map_str
            subst e
            exact mt_join pins s σ H _ _ v us Q I rx rs ⟨x, a, ys, rfl, rfl, .inl hq, hl.1, here _ (.str _ hl.2)⟩
      · cases hz
    · cases hz
  · cases hz
end
end Mi
end
section
set_option maxRecDepth 100000
set_option maxHeartbeats 1000000
namespace Mi
open PySem L2 PyProof.Rows
theorem hu65 {k : Nat} {A : Around} (r : Room k A) : A.units + 65 < cLine := by have := r.un; omega
section
variable {P : Program} {w : World} {K : PySem.W.Frag} {mg : Str → Option Value} {base : Heap} {k : Nat} {f : Addr} {fd : FuncData} {ps : List Str}
theorem fn_none : FnOk P w K mg base CX0 k f fd ps (spM ⟨K, mg⟩ (fun _ _ => .no)) :=
  ⟨fun vs H Q E ⟨c, ds, g, r, q⟩ => q.elim, fun A outer s H args us vs Q E _ _ _ _ ⟨c, ds, g, r, q⟩ => q.elim⟩
end
section
variable {X : Cx} {E : L2.St → XK} {pos : Pos}
/-- {} that stays as it is -/
def mDic0 : ET := fun _ s => .ok (.dic []) s
theorem me_dic0 : ME X E (.Dict [] [] pos) mDic0 := PE.imp pe_dnewK fun st H Q ⟨c, env, g, re, q⟩ p hp => q.new g rfl hp _ (.dic (vs := []) (.inl upd_same) (nlv_of g hp) .nil)
/-- a, b, c = x, y, z -/
def sPar3 (i j l : Nat) (fs : AT) : SM := fun env s => (fs env s).lt env fun ds s1 => match ds with
  | [d, e, f] => .fl (.nx (((env.set i (some d)).set j (some e)).set l (some f))) s1
  | _ => .no
theorem ms_par3 {i j l : Nat} {x y z : Str} {a b c' : Expr} {fs : AT} {px py pz pt : Pos} {kt k2 pt2} (hc : X.calm = true) (hN : X.N.Nodup) (hi : X.N[i]? = some x) (hj : X.N[j]? = some y) (hl : X.N[l]? = some z) (hij : i ≠ j) (hil : i ≠ l) (hjl : j ≠ l)
    (hx : X.env.scope.names.lookup x = some .local) (hy : X.env.scope.names.lookup y = some .local) (hz : X.env.scope.names.lookup z = some .local) (ha : MA X E [a, b, c'] fs)
    (hw : swappedStores [.Tuple [.Name x px, .Name y py, .Name z pz] kt pt] (.Tuple [a, b, c'] k2 pt2) X.env = pure (some [x, y, z]) := by rfl) :
    MS X E (.Assign [.Tuple [.Name x px, .Name y py, .Name z pz] kt pt] (.Tuple [a, b, c'] k2 pt2) pos) (sPar3 i j l fs) := PS.imp (ps_par3 hc hN hi hj hl hij hil hjl hx hy hz ha hw) fun En st H ⟨c, env, gd, re, q⟩ => by
  refine ⟨c, env, gd, re, (FinS.of_lt re q).mono fun ds c1 H1 e1 g1 q1 vs rvs => ?_⟩
  split at q1
  · cases rvs with
    | cons rd rn =>
      cases rn with
      | cons rd2 rn =>
        cases rn with
        | cons rd3 rn =>
          cases rn
          exact ⟨_, _, _, rfl, q1 c1 H1 (Ext.refl _ _) g1 rfl _ ((((re.ext e1).set rd).set rd2).set rd3)⟩
  · exact q1.elim
end
end Mi
end
section
set_option maxRecDepth 100000
set_option maxHeartbeats 1000000
namespace Mi
open PySem L2
/-! ### a calculus of what a mirror reaches -/
def Wp {α : Type} (r : R α) (Q : α → Sto → Prop) : Prop := match r with
  | .ok a s => Q a s
  | _ => False
def WpS (r : SR) (Q : Fl → Sto → Prop) : Prop := match r with
  | .fl f s => Q f s
  | _ => False
section
variable {α β : Type} {r : R α} {Q Q' : α → Sto → Prop} {s : Sto} {env : Env}
@[simp] theorem Wp_ok {a : α} : Wp (.ok a s) Q = Q a s := rfl
@[simp] theorem Wp_no : Wp (.no : R α) Q = False := rfl
@[simp] theorem Wp_ex {x : Xn} : Wp (.ex x s : R α) Q = False := rfl
@[simp] theorem Wp_bind {g : α → Sto → R β} {Q : β → Sto → Prop} : Wp (r.bind g) Q = Wp r fun a s => Wp (g a s) Q := by cases r <;> rfl
@[simp] theorem Wp_quiet : Wp r.quiet Q = Wp r Q := by cases r <;> rfl
theorem Wp.mono (h : Wp r Q) (i : ∀ a s, Q a s → Q' a s) : Wp r Q' := by
  cases r with
  | ok a s => exact i a s h
  | ex x s => exact h
  | no => exact h
theorem Wp.out (h : Wp r Q) : ∃ a s, r = .ok a s ∧ Q a s := by
  cases r with
  | ok a s => exact ⟨a, s, rfl, h⟩
  | ex x s => exact h.elim
  | no => exact h.elim
theorem Wp_ite {c : Prop} [Decidable c] {r' : R α} : Wp (if c then r else r') Q = if c then Wp r Q else Wp r' Q := by split <;> rfl
theorem WpS.mono {r : SR} {Q Q' : Fl → Sto → Prop} (h : WpS r Q) (i : ∀ a s, Q a s → Q' a s) : WpS r Q' := by
  cases r with
  | fl a s => exact i a s h
  | ex x e s => exact h
  | no => exact h
@[simp] theorem WpS_fl {f : Fl} {Q : Fl → Sto → Prop} : WpS (.fl f s) Q = Q f s := rfl
@[simp] theorem WpS_no {Q : Fl → Sto → Prop} : WpS .no Q = False := rfl
@[simp] theorem WpS_st {r : R D} {g : D → Sto → SR} {Q : Fl → Sto → Prop} : WpS (r.st env g) Q = Wp r fun d s => WpS (g d s) Q := by cases r <;> rfl
@[simp] theorem WpS_bt {r : R Bool} {g : Bool → Sto → SR} {Q : Fl → Sto → Prop} : WpS (r.bt env g) Q = Wp r fun d s => WpS (g d s) Q := by cases r <;> rfl
@[simp] theorem WpS_lt {r : R (List D)} {g : List D → Sto → SR} {Q : Fl → Sto → Prop} : WpS (r.lt env g) Q = Wp r fun d s => WpS (g d s) Q := by cases r <;> rfl
@[simp] theorem WpS_it {r : R (List D × (Sto → Prop))} {g : List D × (Sto → Prop) → Sto → SR} {Q : Fl → Sto → Prop} : WpS (r.it env g) Q = Wp r fun d s => WpS (g d s) Q := by cases r <;> rfl
/-- behind a statement -/
def Nx (g : Env → Sto → Prop) (Q : Fl → Sto → Prop) : Fl → Sto → Prop := fun f s => match f with
  | .nx e => g e s
  | f => Q f s
@[simp] theorem Nx_nx {g : Env → Sto → Prop} {Q : Fl → Sto → Prop} {e : Env} : Nx g Q (.nx e) s = g e s := rfl
@[simp] theorem Nx_rt {g : Env → Sto → Prop} {Q : Fl → Sto → Prop} {d : D} : Nx g Q (.rt d) s = Q (.rt d) s := rfl
@[simp] theorem Nx_bk {g : Env → Sto → Prop} {Q : Fl → Sto → Prop} {d : Env} : Nx g Q (.bk d) s = Q (.bk d) s := rfl
@[simp] theorem Nx_ct {g : Env → Sto → Prop} {Q : Fl → Sto → Prop} {d : Env} : Nx g Q (.ct d) s = Q (.ct d) s := rfl
@[simp] theorem WpS_then {r : SR} {g : Env → Sto → SR} {Q : Fl → Sto → Prop} : WpS (r.then g) Q = WpS r (Nx (fun e s => WpS (g e s) Q) Q) := by
  cases r with
  | fl f s => cases f <;> rfl
  | ex x e s => rfl
  | no => rfl
end
section
variable {env : Env} {s : Sto} {Q : D → Sto → Prop} {Qb : Bool → Sto → Prop} {Qa : List D → Sto → Prop} {Qs : Fl → Sto → Prop}
@[simp] theorem mVar_ap {i : Nat} : Wp (mVar i env s) Q = ∃ d, env[i]? = some (some d) ∧ Q d s := by
  unfold mVar
  cases h : env[i]? with
  | none => simp
  | some o => cases o <;> simp
@[simp] theorem mC_ap {d : D} : mC d env s = .ok d s := rfl
@[simp] theorem mOp_ap {op : Op2} {fa fb : ET} : Wp (mOp op fa fb env s) Q = Wp (fa env s) fun d s1 => Wp (fb env s1) fun e s2 => ∃ z, op s2 d e = some z ∧ Q z s2 := by
  simp only [mOp, Wp_bind]
  congr; funext d s1; congr; funext e s2
  cases op s2 d e <;> simp
@[simp] theorem mUn_ap {op : Sto → D → Option D} {fa : ET} : Wp (mUn op fa env s) Q = Wp (fa env s) fun d s1 => ∃ z, op s1 d = some z ∧ Q z s1 := by
  simp only [mUn, Wp_bind]
  congr; funext d s1
  cases op s1 d <;> simp
@[simp] theorem mB_ap {fa : ET} : Wp (mB fa env s) Qb = Wp (fa env s) fun d s1 => ∃ b, d = .bl b ∧ Qb b s1 := by
  simp only [mB, Wp_bind]
  congr; funext d s1
  cases d <;> simp
@[simp] theorem mTru_ap {fa : ET} : Wp (mTru fa env s) Qb = Wp (fa env s) fun d s1 => ∃ b, truD s1 d = some b ∧ Qb b s1 := by
  simp only [mTru, Wp_bind]
  congr; funext d s1
  cases truD s1 d <;> simp
@[simp] theorem mAnd_ap {fa fb : ET} : Wp (mAnd fa fb env s) Q = Wp (fa env s) fun d s1 => (truD s1 d = some true ∧ Wp (fb env s1) Q) ∨ (truD s1 d = some false ∧ Q d s1) := by
  simp only [mAnd, Wp_bind]
  congr; funext d s1
  cases truD s1 d with
  | none => simp
  | some b => cases b <;> simp
@[simp] theorem mOr_ap {fa fb : ET} : Wp (mOr fa fb env s) Q = Wp (fa env s) fun d s1 => (truD s1 d = some false ∧ Wp (fb env s1) Q) ∨ (truD s1 d = some true ∧ Q d s1) := by
  simp only [mOr, Wp_bind]
  congr; funext d s1
  cases truD s1 d with
  | none => simp
  | some b => cases b <;> simp
@[simp] theorem mNot_ap {fa : ET} : Wp (mNot fa env s) Q = Wp (fa env s) fun d s1 => ∃ b, truD s1 d = some b ∧ Q (.bl (!b)) s1 := by
  simp only [mNot, Wp_bind]
  congr; funext d s1
  cases truD s1 d <;> simp
@[simp] theorem bAnd_ap {fa fb : BT} : Wp (bAnd fa fb env s) Qb = Wp (fa env s) fun b s1 => if b then Wp (fb env s1) Qb else Qb false s1 := by
  simp only [bAnd, Wp_bind]
  congr; funext b s1
  cases b <;> simp
@[simp] theorem bOr_ap {fa fb : BT} : Wp (bOr fa fb env s) Qb = Wp (fa env s) fun b s1 => if b then Qb true s1 else Wp (fb env s1) Qb := by
  simp only [bOr, Wp_bind]
  congr; funext b s1
  cases b <;> simp
@[simp] theorem bNot_ap {fa : BT} : Wp (bNot fa env s) Qb = Wp (fa env s) fun b s1 => Qb (!b) s1 := by simp [bNot]
@[simp] theorem bYes_ap : bYes env s = .ok true s := rfl
@[simp] theorem mIf_ap {bc : BT} {fa fb : ET} : Wp (mIf bc fa fb env s) Q = Wp (bc env s) fun b s1 => if b then Wp (fa env s1) Q else Wp (fb env s1) Q := by
  simp only [mIf, Wp_bind]
  congr; funext b s1
  cases b <;> simp
@[simp] theorem mNil_ap : mNil env s = .ok [] s := rfl
@[simp] theorem mCons_ap {fa : ET} {fs : AT} : Wp (mCons fa fs env s) Qa = Wp (fa env s) fun d s1 => Wp (fs env s1) fun ds s2 => Qa (d :: ds) s2 := by simp [mCons]
@[simp] theorem mTup_ap {fs : AT} : Wp (mTup fs env s) Q = Wp (fs env s) fun ds s1 => ds.length ≤ sizeLine ∧ Q (.tup ds) s1 := by
  simp only [mTup, Wp_bind]
  congr; funext ds s1
  split
  · rename_i h; simp [h]
  · rename_i h; simp [h]
@[simp] theorem mLst_ap {fs : AT} : Wp (mLst fs env s) Q = Wp (fs env s) fun ds s1 => ds.length ≤ sizeLine ∧ Q (.lst ds) s1 := by
  simp only [mLst, Wp_bind]
  congr; funext ds s1
  split
  · rename_i h; simp [h]
  · rename_i h; simp [h]
@[simp] theorem mLstR_ap {fs : AT} : Wp (mLstR fs env s) Q = Wp (fs env s) fun ds s1 => ds.length ≤ sizeLine ∧ Q (.ref s1.length) (s1 ++ [.lst true ds]) := by
  simp only [mLstR, Wp_bind]
  congr; funext ds s1
  split
  · rename_i h; simp [h]
  · rename_i h; simp [h]
@[simp] theorem mDic0_ap : mDic0 env s = .ok (.dic []) s := rfl
@[simp] theorem mCall_ap {F : FT} {fs : AT} : Wp (mCall F fs env s) Q = Wp (fs env s) fun ds s1 => Wp (F ds s1) Q := by simp [mCall]
@[simp] theorem mCb_ap {cb : Cb} {fs : AT} : Wp (mCb cb fs env s) Q = Wp (fs env s) fun ds s1 => ∃ z, cb s1 ds = some z ∧ Q z s1 := by
  simp only [mCb, Wp_bind]
  congr; funext ds s1
  cases cb s1 ds <;> simp
@[simp] theorem mMb_ap {mb : Mb} {fa : ET} {fs : AT} : Wp (mMb mb fa fs env s) Q = Wp (fa env s) fun d s1 => Wp (fs env s1) fun ds s2 => ∃ z, mb s2 d ds = some z ∧ Q z s2 := by
  simp only [mMb, Wp_bind]
  congr; funext d s1; congr; funext ds s2
  cases mb s2 d ds <;> simp
@[simp] theorem mStr_ap {fa : ET} : Wp (mStr fa env s) Q = Wp (fa env s) fun d s1 => ∃ x, d = .str x ∧ Q (.str x) s1 := by
  simp only [mStr, Wp_bind]
  congr; funext d s1
  cases d <;> simp
@[simp] theorem mRevT_ap {fa : ET} : Wp (mRevT fa env s) Q = Wp (fa env s) fun d s1 => ∃ xs, d = .tup xs ∧ Q (.tup xs.reverse) s1 := by
  simp only [mRevT, Wp_bind]
  congr; funext d s1
  cases d <;> simp
@[simp] theorem mPart_ap {fa : ET} {Qo : Option Int → Sto → Prop} : Wp (mPart fa env s) Qo = Wp (fa env s) fun d s1 => ∃ i, d = .int i ∧ Qo (some i) s1 := by
  simp only [mPart, Wp_bind]
  congr; funext d s1
  cases d <;> simp
@[simp] theorem mNoPart_ap : mNoPart env s = .ok none s := rfl
@[simp] theorem mSl_ap {op : Sto → D → Option Int → Option Int → Option D} {fa : ET} {fl fh : PT1} : Wp (mSl op fa fl fh env s) Q = Wp (fa env s) fun d s1 => Wp (fl env s1) fun l s2 => Wp (fh env s2) fun h s3 => ∃ z, op s3 d l h = some z ∧ Q z s3 := by
  simp only [mSl, Wp_bind]
  congr; funext d s1; congr; funext l s2; congr; funext h s3
  cases op s3 d l h <;> simp
@[simp] theorem mChain_ap {op op' : Op2} {fa fb fc : ET} : Wp (mChain op op' fa fb fc env s) Q = Wp (fa env s) fun d s1 => Wp (fb env s1) fun e s2 =>
    (op s2 d e = some (.bl true) ∧ Wp (fc env s2) fun k s3 => ∃ z, op' s3 e k = some z ∧ Q z s3) ∨ (op s2 d e = some (.bl false) ∧ Q (.bl false) s2) := by
  simp only [mChain, Wp_bind]
  congr; funext d s1; congr; funext e s2
  cases h : op s2 d e with
  | none => simp
  | some z =>
    cases z with
    | bl b =>
      cases b with
      | false => simp
      | true =>
        have : (fun a s => Wp (match op' s e a with | some z => R.ok z s | none => R.no) Q) = fun k s3 => ∃ z, op' s3 e k = some z ∧ Q z s3 := by
          funext k s3
          cases op' s3 e k <;> simp
        simp only [Wp_bind, true_and, Option.some.injEq, D.bl.injEq, Bool.true_eq_false, false_and, or_false]
        exact propext ⟨fun q => q.mono fun k s3 z => by rw [← congrFun (congrFun this k) s3]; exact z, fun q => q.mono fun k s3 z => by rw [← congrFun (congrFun this k) s3] at z; exact z⟩
    | _ => simp
/-! walked things -/
variable {Qi : List D × (Sto → Prop) → Sto → Prop}
@[simp] theorem itL_ap {fa : ET} : Wp (itL fa env s) Qi = Wp (fa env s) fun d s1 => ∃ xs, asL s1 d = some xs ∧ Qi (xs, stays d xs) s1 := by
  simp only [itL, Wp_bind]
  congr; funext d s1
  cases asL s1 d <;> simp
@[simp] theorem itT_ap {fa : ET} : Wp (itT fa env s) Qi = Wp (fa env s) fun d s1 => ∃ xs, d = .tup xs ∧ Qi (xs, fun _ => True) s1 := by
  simp only [itT, Wp_bind]
  congr; funext d s1
  cases d <;> simp
@[simp] theorem itS_ap {fa : ET} : Wp (itS fa env s) Qi = Wp (fa env s) fun d s1 => ∃ x, d = .str x ∧ Qi (signs x, fun _ => True) s1 := by
  simp only [itS, Wp_bind]
  congr; funext d s1
  cases d <;> simp
@[simp] theorem itR1_ap {fs : AT} : Wp (itR1 fs env s) Qi = Wp (fs env s) fun ds s1 => ∃ j, ds = [.int j] ∧ (-(2 ^ 62) ≤ j ∧ j < 2 ^ 62) ∧ Qi (rangeD 0 j.toNat, fun _ => True) s1 := by
  simp only [itR1, Wp_bind]
  congr; funext ds s1
  split
  · rename_i j
    split
    · rename_i h
      refine propext ⟨fun q => ⟨j, rfl, h, q⟩, fun ⟨j', e, h', q⟩ => ?_⟩
      cases e; exact q
    · rename_i h
      refine propext ⟨fun q => q.elim, fun ⟨j', e, h', q⟩ => ?_⟩
      cases e; exact absurd h' h
  · rename_i h
    refine propext ⟨fun q => q.elim, fun ⟨j', e, h', q⟩ => absurd e (h j')⟩
/-! statements -/
@[simp] theorem sNil_ap : sNil env s = .fl (.nx env) s := rfl
@[simp] theorem sSeq_ap {f g : SM} : sSeq f g env s = (f env s).then g := rfl
@[simp] theorem sIf_ap {bc : BT} {f g : SM} : WpS (sIf bc f g env s) Qs = Wp (bc env s) fun b s1 => if b then WpS (f env s1) Qs else WpS (g env s1) Qs := by
  simp only [sIf, WpS_bt]
  congr; funext b s1
  cases b <;> simp
@[simp] theorem sRet_ap {fa : ET} : WpS (sRet fa env s) Qs = Wp (fa env s) fun d s1 => Qs (.rt d) s1 := by simp [sRet]
@[simp] theorem sRetN_ap : sRetN env s = .fl (.rt .non) s := rfl
@[simp] theorem sBrk_ap : sBrk env s = .fl (.bk env) s := rfl
@[simp] theorem sCnt_ap : sCnt env s = .fl (.ct env) s := rfl
@[simp] theorem sExp_ap {fa : ET} : WpS (sExp fa env s) Qs = Wp (fa env s) fun d s1 => Qs (.nx env) s1 := by simp [sExp]
@[simp] theorem sAsg_ap {fa : ET} {g : Tg} : WpS (sAsg fa g env s) Qs = Wp (fa env s) fun d s1 => ∃ e, g d env = some e ∧ Qs (.nx e) s1 := by
  simp only [sAsg, WpS_st]
  congr; funext d s1
  cases g d env <;> simp
@[simp] theorem sPar_ap {i j : Nat} {fs : AT} : WpS (sPar i j fs env s) Qs = Wp (fs env s) fun ds s1 => ∃ d e, ds = [d, e] ∧ Qs (.nx ((env.set i (some d)).set j (some e))) s1 := by
  simp only [sPar, WpS_lt]
  congr; funext ds s1
  split
  · rename_i d e
    refine propext ⟨fun q => ⟨d, e, rfl, q⟩, fun ⟨d', e', z, q⟩ => ?_⟩
    cases z; exact q
  · rename_i h
    refine propext ⟨fun q => q.elim, fun ⟨d', e', z, q⟩ => absurd z (h d' e')⟩
@[simp] theorem sPar3_ap {i j l : Nat} {fs : AT} : WpS (sPar3 i j l fs env s) Qs = Wp (fs env s) fun ds s1 => ∃ d e f, ds = [d, e, f] ∧ Qs (.nx (((env.set i (some d)).set j (some e)).set l (some f))) s1 := by
  simp only [sPar3, WpS_lt]
  congr; funext ds s1
  split
  · rename_i d e f
    refine propext ⟨fun q => ⟨d, e, f, rfl, q⟩, fun ⟨d', e', f', z, q⟩ => ?_⟩
    cases z; exact q
  · rename_i h
    refine propext ⟨fun q => q.elim, fun ⟨d', e', f', z, q⟩ => absurd z (h d' e' f')⟩
@[simp] theorem tgN_ap {i : Nat} {d : D} : tgN i d env = some (env.set i (some d)) := rfl
@[simp] theorem tgNil_ap : tgNil [] env = some env := rfl
@[simp] theorem tgCons_ap {g : Tg} {r : Tgs} {d : D} {ds : List D} : tgCons g r (d :: ds) env = (g d env).bind (r ds) := by
  simp only [tgCons]
  cases g d env <;> rfl
@[simp] theorem tgT_ap {n : Nat} {r : Tgs} {ds : List D} (h : ds.length = n) : tgT n r (.tup ds) env = r ds env := by simp [tgT, h]
@[simp] theorem mFun_ap {N n : Nat} {b : SM} {ds : List D} (h : ds.length = n) : Wp (mFun N n b ds s) Q = WpS (b (ds.map some ++ List.replicate (N - n) none) s) (fun f s1 => match f with | .rt d => Q d s1 | .nx _ => Q .non s1 | _ => False) := by
  simp only [mFun, h, if_true]
  cases b (ds.map some ++ List.replicate (N - n) none) s with
  | fl f s => cases f <;> rfl
  | ex x e s => rfl
  | no => rfl
@[simp] theorem sSetIx_ap {fv fo fi : ET} : WpS (sSetIx fv fo fi env s) Qs = Wp (fv env s) fun v s1 => Wp (fo env s1) fun o s2 => Wp (fi env s2) fun i s3 => ∃ n k xs j, o = .ref n ∧ i = .int k ∧ s3[n]? = some (.lst true xs) ∧ ixN xs.length k = some j ∧ Qs (.nx env) (s3.set n (.lst true (xs.set j v))) := by
  simp only [sSetIx, WpS_st]
  congr; funext v s1; congr; funext o s2; congr; funext i s3
  cases o with
  | ref n =>
    cases i with
    | int k =>
      simp
      cases h : s3[n]? with
      | none => simp
      | some ob =>
        cases ob with
        | lst m xs =>
          cases m with
          | false => simp
          | true =>
            simp
            cases h2 : ixN xs.length k <;> simp
        | _ => simp
    | _ => simp
  | _ => simp
/-! loops, by what holds of what is left -/
theorem Wp_lcGo {G : Sto → Prop} {g : Tg} {bt : BT} {fe : ET} {env : Env} {Q : List D → Sto → Prop} (I : List D → List D → Sto → Prop) (hG : ∀ r acc s, I r acc s → G s)
    (step : ∀ d r acc s, I (d :: r) acc s → ∃ env2, g d env = some env2 ∧ Wp (bt env2 s) fun b s1 => if b then Wp (fe env2 s1) (fun y s2 => acc.length < sizeLine ∧ I r (acc ++ [y]) s2) else I r acc s1)
    (fin : ∀ acc s, I [] acc s → Q acc s) : ∀ (ds acc : List D) (s : Sto), I ds acc s → Wp (lcGo G g bt fe env ds acc s) Q
  | [], acc, s, h => by
    rw [lcGo, if_pos (hG _ _ _ h)]
    exact fin acc s h
  | d :: r, acc, s, h => by
    rw [lcGo, if_pos (hG _ _ _ h)]
    obtain ⟨env2, e, q⟩ := step d r acc s h
    rw [e]
    simp only [Wp_bind]
    refine q.mono fun b s1 q1 => ?_
    cases b with
    | false => exact Wp_lcGo I hG step fin r acc s1 (by simpa using q1)
    | true =>
      simp only [if_true] at q1
      simp only [Wp_bind]
      refine q1.mono fun y s2 q2 => ?_
      rw [if_pos q2.1]
      exact Wp_lcGo I hG step fin r _ s2 q2.2
theorem Wp_mLc {it : IT} {g : Tg} {bt : BT} {fe : ET} {vs : List Nat} {env : Env} {s : Sto} {Q : D → Sto → Prop} : Wp (mLc it g bt fe vs env s) Q = Wp (it env s) fun p s1 => Wp (lcGo p.2 g bt fe (wipeE env vs) p.1 [] s1) fun ds s2 => Q (.lst ds) s2 := by
  simp [mLc]
theorem WpS_forGo {G : Sto → Prop} {g : Tg} {body : SM} {Q : Fl → Sto → Prop} (I : List D → Env → Sto → Prop) (hG : ∀ r e s, I r e s → G s)
    (step : ∀ d r e s, I (d :: r) e s → ∃ env2, g d e = some env2 ∧ WpS (body env2 s) fun f s1 => match f with
      | .nx e => I r e s1
      | .ct e => I r e s1
      | .bk e => Q (.nx e) s1
      | .rt v => Q (.rt v) s1)
    (fin : ∀ e s, I [] e s → Q (.nx e) s) : ∀ (ds : List D) (e : Env) (s : Sto), I ds e s → WpS (forGo G g body ds e s) Q
  | [], e, s, h => by
    rw [forGo, if_pos (hG _ _ _ h)]
    exact fin e s h
  | d :: r, e, s, h => by
    rw [forGo, if_pos (hG _ _ _ h)]
    obtain ⟨env2, eq, q⟩ := step d r e s h
    rw [eq]
    simp only
    cases z : body env2 s with
    | no => rw [z] at q; exact q.elim
    | ex x e s => rw [z] at q; exact q.elim
    | fl f s1 =>
      rw [z] at q
      cases f with
      | nx e => exact WpS_forGo I hG step fin r e s1 q
      | ct e => exact WpS_forGo I hG step fin r e s1 q
      | bk e => exact q
      | rt v => exact q
/-- statement by statement: K holds between -/
theorem seqK {f g : SM} {env : Env} {s : Sto} {Q : Fl → Sto → Prop} (K : Env → Sto → Prop) (h1 : WpS (f env s) (Nx K Q)) (h2 : ∀ e s, K e s → WpS (g e s) Q) : WpS (sSeq f g env s) Q := by
  rw [sSeq_ap, WpS_then]
  exact h1.mono fun fl s1 h => by
    cases fl with
    | nx e => exact h2 e s1 h
    | rt d => exact h
    | bk e => exact h
    | ct e => exact h
@[simp] theorem sFor_ap {it : IT} {g : Tg} {b : SM} : WpS (sFor it g b env s) Qs = Wp (it env s) fun p s1 => WpS (forGo p.2 g b p.1 env s1) Qs := by simp [sFor]
end
end Mi
end
section
set_option maxRecDepth 100000
namespace Mi
open PySem L2
theorem kit_NoneType_bool : kitB "NoneType" "bool" = some false := by decide +kernel
theorem kit_NoneType_int : kitB "NoneType" "int" = some false := by decide +kernel
theorem kit_NoneType_str : kitB "NoneType" "str" = some false := by decide +kernel
theorem kit_NoneType_tuple : kitB "NoneType" "tuple" = some false := by decide +kernel
theorem kit_NoneType_list : kitB "NoneType" "list" = some false := by decide +kernel
theorem kit_NoneType_dict : kitB "NoneType" "dict" = some false := by decide +kernel
theorem kit_bool_bool : kitB "bool" "bool" = some true := by decide +kernel
theorem kit_bool_int : kitB "bool" "int" = some true := by decide +kernel
theorem kit_bool_str : kitB "bool" "str" = some false := by decide +kernel
theorem kit_bool_tuple : kitB "bool" "tuple" = some false := by decide +kernel
theorem kit_bool_list : kitB "bool" "list" = some false := by decide +kernel
theorem kit_bool_dict : kitB "bool" "dict" = some false := by decide +kernel
theorem kit_int_bool : kitB "int" "bool" = some false := by decide +kernel
theorem kit_int_int : kitB "int" "int" = some true := by decide +kernel
theorem kit_int_str : kitB "int" "str" = some false := by decide +kernel
theorem kit_int_tuple : kitB "int" "tuple" = some false := by decide +kernel
theorem kit_int_list : kitB "int" "list" = some false := by decide +kernel
theorem kit_int_dict : kitB "int" "dict" = some false := by decide +kernel
theorem kit_str_bool : kitB "str" "bool" = some false := by decide +kernel
theorem kit_str_int : kitB "str" "int" = some false := by decide +kernel
theorem kit_str_str : kitB "str" "str" = some true := by decide +kernel
theorem kit_str_tuple : kitB "str" "tuple" = some false := by decide +kernel
theorem kit_str_list : kitB "str" "list" = some false := by decide +kernel
theorem kit_str_dict : kitB "str" "dict" = some false := by decide +kernel
theorem kit_tuple_bool : kitB "tuple" "bool" = some false := by decide +kernel
theorem kit_tuple_int : kitB "tuple" "int" = some false := by decide +kernel
theorem kit_tuple_str : kitB "tuple" "str" = some false := by decide +kernel
theorem kit_tuple_tuple : kitB "tuple" "tuple" = some true := by decide +kernel
theorem kit_tuple_list : kitB "tuple" "list" = some false := by decide +kernel
theorem kit_tuple_dict : kitB "tuple" "dict" = some false := by decide +kernel
theorem kit_list_bool : kitB "list" "bool" = some false := by decide +kernel
theorem kit_list_int : kitB "list" "int" = some false := by decide +kernel
theorem kit_list_str : kitB "list" "str" = some false := by decide +kernel
theorem kit_list_tuple : kitB "list" "tuple" = some false := by decide +kernel
theorem kit_list_list : kitB "list" "list" = some true := by decide +kernel
theorem kit_list_dict : kitB "list" "dict" = some false := by decide +kernel
theorem kit_dict_bool : kitB "dict" "bool" = some false := by decide +kernel
theorem kit_dict_int : kitB "dict" "int" = some false := by decide +kernel
theorem kit_dict_str : kitB "dict" "str" = some false := by decide +kernel
theorem kit_dict_tuple : kitB "dict" "tuple" = some false := by decide +kernel
theorem kit_dict_list : kitB "dict" "list" = some false := by decide +kernel
theorem kit_dict_dict : kitB "dict" "dict" = some true := by decide +kernel
@[simp] theorem isi_NoneType_bool {s : Sto} : isiD "bool" s (.non) = some (.bl false) := by simp only [isiD, tyName, kit_NoneType_bool]; rfl
@[simp] theorem isi_NoneType_int {s : Sto} : isiD "int" s (.non) = some (.bl false) := by simp only [isiD, tyName, kit_NoneType_int]; rfl
@[simp] theorem isi_NoneType_str {s : Sto} : isiD "str" s (.non) = some (.bl false) := by simp only [isiD, tyName, kit_NoneType_str]; rfl
@[simp] theorem isi_NoneType_tuple {s : Sto} : isiD "tuple" s (.non) = some (.bl false) := by simp only [isiD, tyName, kit_NoneType_tuple]; rfl
@[simp] theorem isi_NoneType_list {s : Sto} : isiD "list" s (.non) = some (.bl false) := by simp only [isiD, tyName, kit_NoneType_list]; rfl
@[simp] theorem isi_NoneType_dict {s : Sto} : isiD "dict" s (.non) = some (.bl false) := by simp only [isiD, tyName, kit_NoneType_dict]; rfl
@[simp] theorem isi_bool_bool {s : Sto} {b : Bool} : isiD "bool" s (.bl b) = some (.bl true) := by simp only [isiD, tyName, kit_bool_bool]; rfl
@[simp] theorem isi_bool_int {s : Sto} {b : Bool} : isiD "int" s (.bl b) = some (.bl true) := by simp only [isiD, tyName, kit_bool_int]; rfl
@[simp] theorem isi_bool_str {s : Sto} {b : Bool} : isiD "str" s (.bl b) = some (.bl false) := by simp only [isiD, tyName, kit_bool_str]; rfl
@[simp] theorem isi_bool_tuple {s : Sto} {b : Bool} : isiD "tuple" s (.bl b) = some (.bl false) := by simp only [isiD, tyName, kit_bool_tuple]; rfl
@[simp] theorem isi_bool_list {s : Sto} {b : Bool} : isiD "list" s (.bl b) = some (.bl false) := by simp only [isiD, tyName, kit_bool_list]; rfl
@[simp] theorem isi_bool_dict {s : Sto} {b : Bool} : isiD "dict" s (.bl b) = some (.bl false) := by simp only [isiD, tyName, kit_bool_dict]; rfl
@[simp] theorem isi_int_bool {s : Sto} {i : Int} : isiD "bool" s (.int i) = some (.bl false) := by simp only [isiD, tyName, kit_int_bool]; rfl
@[simp] theorem isi_int_int {s : Sto} {i : Int} : isiD "int" s (.int i) = some (.bl true) := by simp only [isiD, tyName, kit_int_int]; rfl
@[simp] theorem isi_int_str {s : Sto} {i : Int} : isiD "str" s (.int i) = some (.bl false) := by simp only [isiD, tyName, kit_int_str]; rfl
@[simp] theorem isi_int_tuple {s : Sto} {i : Int} : isiD "tuple" s (.int i) = some (.bl false) := by simp only [isiD, tyName, kit_int_tuple]; rfl
@[simp] theorem isi_int_list {s : Sto} {i : Int} : isiD "list" s (.int i) = some (.bl false) := by simp only [isiD, tyName, kit_int_list]; rfl
@[simp] theorem isi_int_dict {s : Sto} {i : Int} : isiD "dict" s (.int i) = some (.bl false) := by simp only [isiD, tyName, kit_int_dict]; rfl
@[simp] theorem isi_str_bool {s : Sto} {x : Str} : isiD "bool" s (.str x) = some (.bl false) := by simp only [isiD, tyName, kit_str_bool]; rfl
@[simp] theorem isi_str_int {s : Sto} {x : Str} : isiD "int" s (.str x) = some (.bl false) := by simp only [isiD, tyName, kit_str_int]; rfl
@[simp] theorem isi_str_str {s : Sto} {x : Str} : isiD "str" s (.str x) = some (.bl true) := by simp only [isiD, tyName, kit_str_str]; rfl
@[simp] theorem isi_str_tuple {s : Sto} {x : Str} : isiD "tuple" s (.str x) = some (.bl false) := by simp only [isiD, tyName, kit_str_tuple]; rfl
@[simp] theorem isi_str_list {s : Sto} {x : Str} : isiD "list" s (.str x) = some (.bl false) := by simp only [isiD, tyName, kit_str_list]; rfl
@[simp] theorem isi_str_dict {s : Sto} {x : Str} : isiD "dict" s (.str x) = some (.bl false) := by simp only [isiD, tyName, kit_str_dict]; rfl
@[simp] theorem isi_tuple_bool {s : Sto} {xs : List D} : isiD "bool" s (.tup xs) = some (.bl false) := by simp only [isiD, tyName, kit_tuple_bool]; rfl
@[simp] theorem isi_tuple_int {s : Sto} {xs : List D} : isiD "int" s (.tup xs) = some (.bl false) := by simp only [isiD, tyName, kit_tuple_int]; rfl
@[simp] theorem isi_tuple_str {s : Sto} {xs : List D} : isiD "str" s (.tup xs) = some (.bl false) := by simp only [isiD, tyName, kit_tuple_str]; rfl
@[simp] theorem isi_tuple_tuple {s : Sto} {xs : List D} : isiD "tuple" s (.tup xs) = some (.bl true) := by simp only [isiD, tyName, kit_tuple_tuple]; rfl
@[simp] theorem isi_tuple_list {s : Sto} {xs : List D} : isiD "list" s (.tup xs) = some (.bl false) := by simp only [isiD, tyName, kit_tuple_list]; rfl
@[simp] theorem isi_tuple_dict {s : Sto} {xs : List D} : isiD "dict" s (.tup xs) = some (.bl false) := by simp only [isiD, tyName, kit_tuple_dict]; rfl
@[simp] theorem isi_list_bool {s : Sto} {xs : List D} : isiD "bool" s (.lst xs) = some (.bl false) := by simp only [isiD, tyName, kit_list_bool]; rfl
@[simp] theorem isi_list_int {s : Sto} {xs : List D} : isiD "int" s (.lst xs) = some (.bl false) := by simp only [isiD, tyName, kit_list_int]; rfl
@[simp] theorem isi_list_str {s : Sto} {xs : List D} : isiD "str" s (.lst xs) = some (.bl false) := by simp only [isiD, tyName, kit_list_str]; rfl
@[simp] theorem isi_list_tuple {s : Sto} {xs : List D} : isiD "tuple" s (.lst xs) = some (.bl false) := by simp only [isiD, tyName, kit_list_tuple]; rfl
@[simp] theorem isi_list_list {s : Sto} {xs : List D} : isiD "list" s (.lst xs) = some (.bl true) := by simp only [isiD, tyName, kit_list_list]; rfl
@[simp] theorem isi_list_dict {s : Sto} {xs : List D} : isiD "dict" s (.lst xs) = some (.bl false) := by simp only [isiD, tyName, kit_list_dict]; rfl
@[simp] theorem isi_dict_bool {s : Sto} {kvs : List (Key × D)} : isiD "bool" s (.dic kvs) = some (.bl false) := by simp only [isiD, tyName, kit_dict_bool]; rfl
@[simp] theorem isi_dict_int {s : Sto} {kvs : List (Key × D)} : isiD "int" s (.dic kvs) = some (.bl false) := by simp only [isiD, tyName, kit_dict_int]; rfl
@[simp] theorem isi_dict_str {s : Sto} {kvs : List (Key × D)} : isiD "str" s (.dic kvs) = some (.bl false) := by simp only [isiD, tyName, kit_dict_str]; rfl
@[simp] theorem isi_dict_tuple {s : Sto} {kvs : List (Key × D)} : isiD "tuple" s (.dic kvs) = some (.bl false) := by simp only [isiD, tyName, kit_dict_tuple]; rfl
@[simp] theorem isi_dict_list {s : Sto} {kvs : List (Key × D)} : isiD "list" s (.dic kvs) = some (.bl false) := by simp only [isiD, tyName, kit_dict_list]; rfl
@[simp] theorem isi_dict_dict {s : Sto} {kvs : List (Key × D)} : isiD "dict" s (.dic kvs) = some (.bl true) := by simp only [isiD, tyName, kit_dict_dict]; rfl
@[simp] theorem tru_bl {s : Sto} {b : Bool} : truD s (.bl b) = some b := rfl
@[simp] theorem tru_non {s : Sto} : truD s .non = some false := rfl
end Mi
end
section
set_option maxRecDepth 100000
set_option maxHeartbeats 4000000
namespace K02
open PySem L2 PyProof.Rows Mi
def top (i : Nat) : Stmt := PySem.Challenge.pw_laterknown_k02_values_alike.main.body.getD i (.Pass ⟨0, 0, 0, 0⟩)
abbrev s_alike : Stmt := top 1
abbrev N_alike : List Str := ["one", "other", "part", "second"]
abbrev s__law_pot : Stmt := top 3
abbrev N__law_pot : List Str := ["_law_script", "_law_k", "_law_cell", "_law_great"]
abbrev s__law_take : Stmt := top 4
abbrev N__law_take : List Str := ["_law_pot_here", "_law_size", "_law_prime", "_law_mixed", "_law_digit"]
abbrev s__law_pick : Stmt := top 5
abbrev N__law_pick : List Str := ["_law_pot_here", "_law_some"]
abbrev s__law_sort : Stmt := top 6
abbrev N__law_sort : List Str := ["_law_thing", "_law_signs", "_law_word", "_law_most", "_law_text", "_law_is_short", "_law_sign"]
abbrev s__law_deep : Stmt := top 7
abbrev N__law_deep : List Str := ["_law_thing", "_law_some", "_law_part"]
abbrev s__law_plain : Stmt := top 8
abbrev N__law_plain : List Str := ["_law_pot_here", "_law_text", "_law_some", "_law_marked", "_law_turn"]
abbrev s__law_value : Stmt := top 9
abbrev N__law_value : List Str := ["_law_pot_here", "_law_deep_here", "_law_many", "_law_turn"]
abbrev s__law_near : Stmt := top 10
abbrev N__law_near : List Str := ["_law_pot_here", "_law_part", "_law_some", "_law_others"]
abbrev s__law_bent : Stmt := top 11
abbrev N__law_bent : List Str := ["_law_pot_here", "_law_thing", "_law_deep_here", "_law_at"]
abbrev s__law_alike : Stmt := top 12
abbrev N__law_alike : List Str := ["_law_one", "_law_other", "_law_part", "_law_its"]
abbrev s__law_asked : Stmt := top 13
abbrev N__law_asked : List Str := ["_law_one", "_law_other", "_law_due"]
abbrev s__law_asked_all : Stmt := top 14
abbrev N__law_asked_all : List Str := ["_law_one", "_law_some", "_law_other"]
abbrev s__law_by_hand : Stmt := top 15
abbrev N__law_by_hand : List Str := ["_law_some"]
abbrev s__law_right : Stmt := top 16
abbrev N__law_right : List Str := ["_law_pot_here", "_law_some", "_law_one", "_law_again", "_law_turn", "_law_other", "_law_deep_here"]
abbrev s_law : Stmt := top 17
abbrev N_law : List Str := ["_law_script", "_law_one", "_law_k"]
/-- a def of the text as it stands behind the top -/
structure Fn (K : PySem.W.Frag) (mg : Str → Option Value) (x : Str) (st : Stmt) (ps : List Str) where
  f : Addr
  fd : FuncData
  fu : Fun K x x st f fd
  mgx : mg x = some (.ref f)
  bd : Binds K fd ps []
structure Tx (K : PySem.W.Frag) (mg : Str → Option Value) where
  alike : Fn K mg "alike" s_alike ["one", "other"]
  _law_pot : Fn K mg "_law_pot" s__law_pot ["_law_script", "_law_k"]
  _law_take : Fn K mg "_law_take" s__law_take ["_law_pot_here", "_law_size"]
  _law_pick : Fn K mg "_law_pick" s__law_pick ["_law_pot_here", "_law_some"]
  _law_sort : Fn K mg "_law_sort" s__law_sort ["_law_thing"]
  _law_deep : Fn K mg "_law_deep" s__law_deep ["_law_thing"]
  _law_plain : Fn K mg "_law_plain" s__law_plain ["_law_pot_here"]
  _law_value : Fn K mg "_law_value" s__law_value ["_law_pot_here", "_law_deep_here"]
  _law_near : Fn K mg "_law_near" s__law_near ["_law_pot_here", "_law_part"]
  _law_bent : Fn K mg "_law_bent" s__law_bent ["_law_pot_here", "_law_thing", "_law_deep_here"]
  _law_alike : Fn K mg "_law_alike" s__law_alike ["_law_one", "_law_other"]
  _law_asked : Fn K mg "_law_asked" s__law_asked ["_law_one", "_law_other"]
  _law_asked_all : Fn K mg "_law_asked_all" s__law_asked_all ["_law_one", "_law_some"]
  _law_by_hand : Fn K mg "_law_by_hand" s__law_by_hand []
  _law_right : Fn K mg "_law_right" s__law_right ["_law_pot_here"]
  law : Fn K mg "law" s_law ["_law_script"]
  z_abs : mg "abs" = none
  z_all : mg "all" = none
  z_bool : mg "bool" = none
  z_int : mg "int" = none
  z_isinstance : mg "isinstance" = none
  z_len : mg "len" = none
  z_list : mg "list" = none
  z_max : mg "max" = none
  z_min : mg "min" = none
  z_range : mg "range" = none
  z_repr : mg "repr" = none
  z_str : mg "str" = none
  z_tuple : mg "tuple" = none
  z_zip : mg "zip" = none
noncomputable def b_alike (rec : FT) : SM := (sSeq (sIf (bAnd (mTru (mUn (isiD "tuple") (mVar 0))) (mTru (mUn (isiD "tuple") (mVar 1)))) (sRet (mAnd (mOp opEq (mCb cbLen (mCons (mVar 0) mNil)) (mCb cbLen (mCons (mVar 1) mNil))) (mCb cbAll (mCons (mLc (itZ (mCons (mVar 0) (mCons (mVar 1) mNil))) (tgT 2 (tgCons (tgN 2) (tgCons (tgN 3) tgNil))) bYes (mCall rec (mCons (mVar 2) (mCons (mVar 3) mNil))) [2, 3]) mNil)))) sNil)
    (sSeq (sIf (mB (mOp opNe (mUn (isiD "bool") (mVar 0)) (mUn (isiD "bool") (mVar 1)))) (sRet (mC (.bl false))) sNil)
    (sRet (mOp opEq (mVar 0) (mVar 1)))))
noncomputable def F_alike : Nat → FT
  | 0 => fun _ _ => .no
  | n + 1 => mFun 4 2 (b_alike (F_alike n))
noncomputable def b__law_pot : SM := (sSeq (sAsg (mIf (mB (mOp opLt (mVar 1) (mCb cbLen (mCons (mVar 0) mNil)))) (mOp opIx (mVar 0) (mVar 1)) (mOp opAdd (mOp opMul (mC (.int 17)) (mVar 1)) (mC (.int 3)))) (tgN 2))
    (sSeq (sAsg (mIf (mB (mOp opGe (mCb cbAbs (mCons (mVar 2) mNil)) (mOp opPow (mC (.int 10)) (mC (.int 18))))) (mOp opMod (mCb cbAbs (mCons (mVar 2) mNil)) (mOp opPow (mOp opPow (mC (.int 10)) (mC (.int 60))) (mC (.int 3)))) (mC (.int 0))) (tgN 3))
    (sRet (mLstR (mCons (mVar 3) (mCons (mOp opMod (mOp opAdd (mOp opAdd (mOp opMul (mOp opMod (mVar 2) (mC (.int 2305843009213693951))) (mC (.int 69621))) (mOp opMul (mOp opMul (mC (.int 104729)) (mVar 1)) (mVar 1))) (mC (.int 71))) (mC (.int 2305843009213693921))) (mCons (mC (.int 0)) mNil)))))))
noncomputable def F__law_pot : FT := mFun 4 2 b__law_pot
noncomputable def b__law_take : SM := (sSeq (sIf (mB (mOp opGt (mOp opIx (mVar 0) (mC (.int 0))) (mC (.int 0)))) (sSeq (sAsg (mOp opMod (mOp opIx (mVar 0) (mC (.int 0))) (mVar 1)) (tgN 4))
    (sSeq (sSetIx (mOp opDiv (mOp opIx (mVar 0) (mC (.int 0))) (mVar 1)) (mVar 0) (mC (.int 0)))
    (sRet (mVar 4)))) sNil)
    (sSeq (sSetIx (mOp opAdd (mOp opIx (mVar 0) (mC (.int 2))) (mC (.int 1))) (mVar 0) (mC (.int 2)))
    (sSeq (sAsg (mOp opIx (mLst (mCons (mC (.int 2147483647)) (mCons (mC (.int 2147483629)) (mCons (mC (.int 2147483587)) (mCons (mC (.int 2147483579)) (mCons (mC (.int 2147483563)) mNil)))))) (mOp opMod (mOp opIx (mVar 0) (mC (.int 2))) (mC (.int 5)))) (tgN 2))
    (sSeq (sAsg (mOp opMod (mOp opPow (mOp opAdd (mOp opAdd (mOp opIx (mVar 0) (mC (.int 1))) (mOp opMul (mOp opMul (mC (.int 40009)) (mOp opIx (mVar 0) (mC (.int 2)))) (mOp opIx (mVar 0) (mC (.int 2))))) (mC (.int 31))) (mC (.int 3))) (mVar 2)) (tgN 3))
    (sRet (mOp opMod (mOp opDiv (mOp opMod (mOp opMul (mVar 3) (mOp opAdd (mOp opMod (mVar 3) (mC (.int 10009))) (mOp opMul (mC (.int 89)) (mOp opIx (mVar 0) (mC (.int 2)))))) (mC (.int 2305843009213693907))) (mC (.int 89))) (mVar 1)))))))
noncomputable def F__law_take : FT := mFun 5 2 b__law_take
noncomputable def b__law_pick : SM := (sRet (mOp opIx (mVar 1) (mCall F__law_take (mCons (mVar 0) (mCons (mCb cbLen (mCons (mVar 1) mNil)) mNil)))))
noncomputable def F__law_pick : FT := mFun 2 2 b__law_pick
noncomputable def b__law_sort : SM := (sSeq (sIf (mTru (mUn (isiD "bool") (mVar 0))) (sRet (mC (.str "bool"))) sNil)
    (sSeq (sIf (mTru (mUn (isiD "int") (mVar 0))) (sRet (mIf (mB (mChain opLe opLe (mUn unNeg (mC (.int 1000000))) (mVar 0) (mC (.int 1000000)))) (mC (.str "integer")) (mC .non))) sNil)
    (sSeq (sIf (bNot (mTru (mUn (isiD "str") (mVar 0)))) (sRet (mC .non)) sNil)
    (sSeq (sAsg (mTup (mCons (mC (.str "abcdefghijklmnopqrstuvwxyz0123456789-")) (mCons (mC (.str "text")) (mCons (mC (.int 20)) (mCons (mVar 0) mNil))))) (tgT 4 (tgCons (tgN 1) (tgCons (tgN 2) (tgCons (tgN 3) (tgCons (tgN 4) tgNil))))))
    (sSeq (sIf (bAnd (mB (mOp opNe (mVar 0) (mC (.str "")))) (mB (mOp opIn (mOp opIx (mVar 0) (mC (.int 0))) (mC (.str "#?"))))) (sSeq (sPar3 2 3 4 (mCons (mIf (mB (mOp opEq (mOp opIx (mVar 0) (mC (.int 0))) (mC (.str "#")))) (mC (.str "id")) (mC (.str "unknown"))) (mCons (mC (.int 80)) (mCons (mSl slD (mVar 0) (mPart (mC (.int 1))) mNoPart) mNil))))
    (sAsg (mOp opAdd (mVar 1) (mC (.str "./[]"))) (tgN 1))) sNil)
    (sSeq (sAsg (mAnd (mOp opLe (mCb cbLen (mCons (mVar 4) mNil)) (mVar 3)) (mOr (mOp opEq (mVar 2) (mC (.str "text"))) (mOp opNe (mVar 4) (mC (.str ""))))) (tgN 5))
    (sRet (mIf (bAnd (mTru (mVar 5)) (mTru (mCb cbAll (mCons (mLc (itS (mVar 4)) (tgN 6) bYes (mOp opIn (mVar 6) (mVar 1)) [6]) mNil)))) (mVar 2) (mC .non)))))))))
noncomputable def F__law_sort : FT := mFun 7 1 b__law_sort
noncomputable def b__law_deep (rec : FT) : SM := (sSeq (sIf (bNot (mTru (mUn (isiD "tuple") (mVar 0)))) (sRet (mIf (mB (mOp opIs (mCall F__law_sort (mCons (mVar 0) mNil)) (mC .non))) (mC .non) (mC (.int 0)))) sNil)
    (sSeq (sAsg (mLc (itT (mVar 0)) (tgN 2) bYes (mCall rec (mCons (mVar 2) mNil)) [2]) (tgN 1))
    (sSeq (sIf (bOr (mB (mOp opGt (mCb cbLen (mCons (mVar 0) mNil)) (mC (.int 16)))) (mB (mOp opIn (mC .non) (mVar 1)))) (sRet (mC .non)) sNil)
    (sRet (mOp opAdd (mC (.int 1)) (mCb cbMax (mCons (mOp opAdd (mLst (mCons (mC (.int 0)) mNil)) (mVar 1)) mNil)))))))
noncomputable def F__law_deep : Nat → FT
  | 0 => fun _ _ => .no
  | n + 1 => mFun 3 1 (b__law_deep (F__law_deep n))
noncomputable def b__law_plain : SM := (sSeq (sAsg (mMb mbJoin (mStr (mC (.str ""))) (mCons (mLc (itR1 (mCons (mCall F__law_pick (mCons (mVar 0) (mCons (mLst (mCons (mC (.int 0)) (mCons (mC (.int 1)) (mCons (mC (.int 1)) (mCons (mC (.int 2)) (mCons (mC (.int 5)) (mCons (mC (.int 20)) mNil))))))) mNil))) mNil)) (tgN 4) bYes (mCall F__law_pick (mCons (mVar 0) (mCons (mC (.str "az09-b")) mNil))) [4]) mNil)) (tgN 1))
    (sSeq (sAsg (mLst (mCons (mC (.str "7.id")) (mCons (mC (.str "net.z.id")) (mCons (mC (.str "main/box.b[0].id")) (mCons (mOp opMul (mC (.str "a")) (mC (.int 80))) (mCons (mC (.str "-")) (mCons (mC (.str "]")) mNil))))))) (tgN 2))
    (sSeq (sAsg (mOp opAdd (mCall F__law_pick (mCons (mVar 0) (mCons (mLst (mCons (mC (.str "#")) (mCons (mC (.str "?")) mNil))) mNil))) (mCall F__law_pick (mCons (mVar 0) (mCons (mVar 2) mNil)))) (tgN 3))
    (sSeq (sAsg (mLst (mCons (mCall F__law_take (mCons (mVar 0) (mCons (mC (.int 9)) mNil))) (mCons (mC (.int 1)) (mCons (mC (.int 0)) (mCons (mUn unNeg (mC (.int 1))) (mCons (mOp opPow (mC (.int 10)) (mC (.int 6))) (mCons (mUn unNeg (mOp opPow (mC (.int 10)) (mC (.int 6)))) (mCons (mCall F__law_take (mCons (mVar 0) (mCons (mOp opPow (mC (.int 10)) (mC (.int 6))) mNil))) mNil)))))))) (tgN 2))
    (sRet (mCall F__law_pick (mCons (mVar 0) (mCons (mOp opAdd (mVar 2) (mLst (mCons (mC (.bl true)) (mCons (mC (.bl false)) (mCons (mVar 1) (mCons (mVar 1) (mCons (mVar 3) mNil))))))) mNil))))))))
noncomputable def F__law_plain : FT := mFun 5 1 b__law_plain
noncomputable def b__law_value (rec : FT) : SM := (sSeq (sIf (bOr (mB (mOp opEq (mVar 1) (mC (.int 0)))) (mB (mOp opGt (mCall F__law_take (mCons (mVar 0) (mCons (mC (.int 3)) mNil))) (mC (.int 0))))) (sRet (mCall F__law_plain (mCons (mVar 0) mNil))) sNil)
    (sSeq (sAsg (mCall F__law_pick (mCons (mVar 0) (mCons (mLst (mCons (mC (.int 0)) (mCons (mC (.int 1)) (mCons (mC (.int 2)) (mCons (mC (.int 3)) (mCons (mC (.int 3)) (mCons (mIf (mB (mOp opEq (mVar 1) (mC (.int 1)))) (mC (.int 16)) (mC (.int 2))) mNil))))))) mNil))) (tgN 2))
    (sRet (mCb cbTuple (mCons (mLc (itR1 (mCons (mVar 2) mNil)) (tgN 3) bYes (mCall rec (mCons (mVar 0) (mCons (mOp opSub (mVar 1) (mC (.int 1))) mNil))) [3]) mNil)))))
noncomputable def F__law_value : Nat → FT
  | 0 => fun _ _ => .no
  | n + 1 => mFun 4 2 (b__law_value (F__law_value n))
noncomputable def b__law_near : SM := (sSeq (sAsg (mLst (mCons (mC .non) (mCons (mC (.bl true)) (mCons (mC (.bl false)) (mCons (mC (.int 0)) (mCons (mC (.int 1)) (mCons (mUn unNeg (mC (.int 1))) (mCons (mOp opAdd (mOp opPow (mC (.int 10)) (mC (.int 6))) (mC (.int 1))) (mCons (mC (.str "")) (mCons (mC (.str "a")) (mCons (mC (.str "#")) (mCons (mC (.str "?a")) (mCons (mC (.str "A")) (mCons (mC (.str "a b")) (mCons (mTup mNil) (mCons (mLst mNil) (mCons mDic0 (mCons (mTup (mCons (mC (.int 0)) mNil)) (mCons (mTup (mCons (mTup mNil) mNil)) mNil))))))))))))))))))) (tgN 2))
    (sSeq (sIf (mTru (mUn (isiD "tuple") (mVar 1))) (sSeq (sAsg (mLst (mCons (mCb cbList (mCons (mVar 1) mNil)) (mCons (mSl slD (mVar 1) mNoPart (mPart (mUn unNeg (mC (.int 1))))) (mCons (mOp opAdd (mVar 1) (mSl slD (mVar 1) (mPart (mUn unNeg (mC (.int 1)))) mNoPart)) (mCons (mRevT (mVar 1)) (mCons (mTup (mCons (mVar 1) mNil)) (mCons (mOp opMul (mVar 1) (mC (.int 9))) (mCons (mOp opAdd (mVar 1) (mTup (mCons (mC (.int 0)) mNil))) mNil)))))))) (tgN 3))
    (sAsg (mOp opAdd (mSl slD (mVar 2) mNoPart (mPart (mC (.int 6)))) (mOp opMul (mVar 3) (mC (.int 2)))) (tgN 2))) (sIf (mTru (mUn (isiD "str") (mVar 1))) (sSeq (sAsg (mLst (mCons (mOp opAdd (mVar 1) (mC (.str "a"))) (mCons (mSl slD (mVar 1) mNoPart (mPart (mUn unNeg (mC (.int 1))))) (mCons (mMb mbUpper (mStr (mVar 1)) mNil) (mCons (mOp opAdd (mC (.str "#")) (mVar 1)) (mCons (mOp opAdd (mC (.str "?")) (mVar 1)) (mCons (mOp opMul (mVar 1) (mC (.int 9))) (mCons (mOp opAdd (mVar 1) (mC (.str " "))) (mCons (mTup (mCons (mVar 1) mNil)) mNil))))))))) (tgN 3))
    (sAsg (mOp opAdd (mSl slD (mVar 2) mNoPart (mPart (mC (.int 6)))) (mOp opMul (mVar 3) (mC (.int 2)))) (tgN 2))) (sIf (mTru (mUn (isiD "int") (mVar 1))) (sSeq (sAsg (mLst (mCons (mOp opAdd (mVar 1) (mC (.int 1))) (mCons (mUn unNeg (mVar 1)) (mCons (mCb cbStr (mCons (mVar 1) mNil)) (mCons (mOp opEq (mVar 1) (mC (.int 1))) (mCons (mCb cbInt (mCons (mVar 1) mNil)) (mCons (mOp opSub (mOp opPow (mC (.int 10)) (mC (.int 6))) (mVar 1)) (mCons (mTup (mCons (mVar 1) mNil)) mNil)))))))) (tgN 3))
    (sAsg (mOp opAdd (mSl slD (mVar 2) mNoPart (mPart (mC (.int 6)))) (mOp opMul (mVar 3) (mC (.int 2)))) (tgN 2))) sNil)))
    (sRet (mCall F__law_pick (mCons (mVar 0) (mCons (mVar 2) mNil))))))
noncomputable def F__law_near : FT := mFun 4 2 b__law_near
noncomputable def b__law_bent (rec : FT) : SM := (sSeq (sIf (bOr (mB (mOp opEq (mVar 2) (mC (.int 0)))) (bOr (bNot (mTru (mUn (isiD "tuple") (mVar 1)))) (bOr (mB (mOp opEq (mVar 1) (mTup mNil))) (mB (mOp opEq (mCall F__law_take (mCons (mVar 0) (mCons (mC (.int 4)) mNil))) (mC (.int 0))))))) (sRet (mCall F__law_near (mCons (mVar 0) (mCons (mVar 1) mNil)))) sNil)
    (sSeq (sAsg (mCall F__law_take (mCons (mVar 0) (mCons (mCb cbLen (mCons (mVar 1) mNil)) mNil))) (tgN 3))
    (sRet (mOp opAdd (mOp opAdd (mSl slD (mVar 1) mNoPart (mPart (mVar 3))) (mTup (mCons (mCall rec (mCons (mVar 0) (mCons (mOp opIx (mVar 1) (mVar 3)) (mCons (mOp opSub (mVar 2) (mC (.int 1))) mNil)))) mNil))) (mSl slD (mVar 1) (mPart (mOp opAdd (mVar 3) (mC (.int 1)))) mNoPart)))))
noncomputable def F__law_bent : Nat → FT
  | 0 => fun _ _ => .no
  | n + 1 => mFun 4 3 (b__law_bent (F__law_bent n))
noncomputable def b__law_alike (rec : FT) : SM := (sSeq (sIf (bAnd (mTru (mUn (isiD "tuple") (mVar 0))) (mTru (mUn (isiD "tuple") (mVar 1)))) (sRet (mAnd (mOp opEq (mCb cbLen (mCons (mVar 0) mNil)) (mCb cbLen (mCons (mVar 1) mNil))) (mCb cbAll (mCons (mLc (itZ (mCons (mVar 0) (mCons (mVar 1) mNil))) (tgT 2 (tgCons (tgN 2) (tgCons (tgN 3) tgNil))) bYes (mCall rec (mCons (mVar 2) (mCons (mVar 3) mNil))) [2, 3]) mNil)))) sNil)
    (sRet (mAnd (mOp opEq (mUn (isiD "bool") (mVar 0)) (mUn (isiD "bool") (mVar 1))) (mOp opEq (mVar 0) (mVar 1)))))
noncomputable def F__law_alike : Nat → FT
  | 0 => fun _ _ => .no
  | n + 1 => mFun 4 2 (b__law_alike (F__law_alike n))
noncomputable def b__law_asked : SM := (sSeq (sAsg (mCall (F__law_alike 8) (mCons (mVar 0) (mCons (mVar 1) mNil))) (tgN 2))
    (sRet (mAnd (mOp opEq (mCb cbRepr (mCons (mCall (F_alike 8) (mCons (mVar 0) (mCons (mVar 1) mNil))) mNil)) (mCb cbRepr (mCons (mVar 2) mNil))) (mOp opEq (mCb cbRepr (mCons (mCall (F_alike 8) (mCons (mVar 1) (mCons (mVar 0) mNil))) mNil)) (mCb cbRepr (mCons (mVar 2) mNil))))))
noncomputable def F__law_asked : FT := mFun 3 2 b__law_asked
noncomputable def b__law_asked_all : SM := (sRet (mCb cbAll (mCons (mLc (itL (mVar 1)) (tgN 2) bYes (mCall F__law_asked (mCons (mVar 0) (mCons (mVar 2) mNil))) [2]) mNil)))
noncomputable def F__law_asked_all : FT := mFun 3 2 b__law_asked_all
noncomputable def b__law_by_hand : SM := (sSeq (sAsg (mLst (mCons (mC (.bl true)) (mCons (mC (.int 1)) (mCons (mC (.bl false)) (mCons (mC (.int 0)) (mCons (mC (.str "")) (mCons (mTup mNil) (mCons (mC (.str "1")) (mCons (mTup (mCons (mC (.int 1)) mNil)) (mCons (mTup (mCons (mC (.bl true)) mNil)) (mCons (mTup (mCons (mC (.int 0)) mNil)) (mCons (mTup (mCons (mC (.bl false)) mNil)) (mCons (mTup (mCons (mTup (mCons (mC (.int 1)) mNil)) mNil)) (mCons (mTup (mCons (mTup (mCons (mC (.bl true)) mNil)) mNil)) (mCons (mTup (mCons (mC (.str "1")) mNil)) (mCons (mC (.str "#a")) (mCons (mC (.str "?a")) mNil))))))))))))))))) (tgN 0))
    (sSeq (sAsg (mOp opAdd (mVar 0) (mLst (mCons (mC (.str "a")) (mCons (mTup (mCons (mC (.int 1)) (mCons (mC (.int 0)) mNil))) (mCons (mTup (mCons (mC (.bl true)) (mCons (mC (.bl false)) mNil))) (mCons (mTup (mCons (mC (.int 1)) (mCons (mC (.bl false)) mNil))) (mCons (mTup (mCons (mTup mNil) (mCons (mC (.int 1)) mNil))) (mCons (mTup (mCons (mTup mNil) (mCons (mC (.bl true)) mNil))) (mCons (mTup (mCons (mC (.str "")) mNil)) (mCons (mTup (mCons (mTup mNil) mNil)) (mCons (mUn unNeg (mC (.int 1))) (mCons (mC (.str "-1")) (mCons (mC (.str "#1.id")) mNil))))))))))))) (tgN 0))
    (sRet (mOp opAdd (mVar 0) (mLst (mCons (mC (.str "?1.id")) mNil))))))
noncomputable def F__law_by_hand : FT := mFun 1 0 b__law_by_hand
noncomputable def b__law_right : SM := (sSeq (sAsg (mLc (itR1 (mCons (mC (.int 16)) mNil)) (tgN 4) bYes (mCall (F__law_value 5) (mCons (mVar 0) (mCons (mC (.int 3)) mNil))) [4]) (tgN 1))
    (sSeq (sIf (bNot (mTru (mCb cbAll (mCons (mLc (itL (mVar 1)) (tgN 2) bYes (mCall F__law_asked_all (mCons (mVar 2) (mCons (mVar 1) mNil))) [2]) mNil)))) (sRet (mC (.bl false))) sNil)
    (sSeq (sFor (itL (mVar 1)) (tgN 2) (sFor (itR1 (mCons (mC (.int 4)) mNil)) (tgN 3) (sSeq (sAsg (mCall (F__law_bent 5) (mCons (mVar 0) (mCons (mVar 2) (mCons (mC (.int 3)) mNil)))) (tgN 5))
    (sSeq (sAsg (mCall (F__law_deep 10) (mCons (mVar 5) mNil)) (tgN 6))
    (sIf (bAnd (mB (mOp opIsNot (mVar 6) (mC .non))) (bAnd (mB (mOp opLe (mVar 6) (mC (.int 3)))) (bNot (mTru (mCall F__law_asked (mCons (mVar 2) (mCons (mVar 5) mNil))))))) (sRet (mC (.bl false))) sNil)))))
    (sRet (mC (.bl true))))))
noncomputable def F__law_right : FT := mFun 7 1 b__law_right
noncomputable def b_law : SM := (sSeq (sFor (itL (mCall F__law_by_hand mNil)) (tgN 1) (sIf (bNot (mTru (mCall F__law_asked_all (mCons (mVar 1) (mCons (mCall F__law_by_hand mNil) mNil))))) (sRet (mC (.bl false))) sNil))
    (sRet (mCb cbAll (mCons (mLc (itR1 (mCons (mCb cbMax (mCons (mC (.int 1)) (mCons (mCb cbMin (mCons (mC (.int 3)) (mCons (mCb cbLen (mCons (mVar 0) mNil)) mNil))) mNil))) mNil)) (tgN 2) bYes (mCall F__law_right (mCons (mCall F__law_pot (mCons (mVar 0) (mCons (mVar 2) mNil))) mNil)) [2]) mNil))))
noncomputable def F_law : FT := mFun 3 1 b_law
section
variable {P : Program} {w : World} {K : PySem.W.Frag} {mg : Str → Option Value} {base : Heap}
theorem sc_alike : FnScope N_alike ["one", "other"] (defScope s_alike) := ⟨rfl, rfl, rfl, by decide +kernel, rfl, by decide +kernel, by decide +kernel⟩
theorem ok_alike (T : Tx K mg) : ∀ n : Nat, FnOk P w K mg base CX0 (0 + n) T.alike.f T.alike.fd ["one", "other"] (spM ⟨K, mg⟩ (F_alike n))
  | 0 => fn_none
  | n + 1 => by
    have ih := ok_alike T n
    exact fn_mir (k := 0 + n) T.alike.fu sc_alike fun cdv A outer s H E hr => (mss_cons (ms_if (mt_w (mw_and (mt_truth (me_isi rfl T.z_isinstance (by decide +kernel) rfl T.z_tuple (by decide +kernel) (mv 0))) (mw_and1 (mt_truth (me_isi rfl T.z_isinstance (by decide +kernel) rfl T.z_tuple (by decide +kernel) (mv 1)))))) (mss_one (ms_ret (me_and (me_cmp (op_eq_M hr.units) (me_callB cb_len rfl T.z_len (by decide +kernel) (ma_cons (mv 0) ma_nil)) (me_callB cb_len rfl T.z_len (by decide +kernel) (ma_cons (mv 1) ma_nil)) (nomark _)) (me_one (me_callB (cb_all rfl) rfl T.z_all (by decide +kernel) (ma_cons (me_lc (own := [("part", 2), ("second", 3)]) rfl sc_alike.nd (mi_zip rfl T.z_zip (ma_cons (mv 0) (ma_cons (mv 1) ma_nil))) (blkOk_by (own := [("part", 2), ("second", 3)]) (N := N_alike) (sc := defScope s_alike) (by decide +kernel)) (fun _ _ _ _ _ => (mg_tup rfl (mgs_cons (mg_name (i := 2) sc_alike.nd rfl (by first | exact Or.inl rfl | exact Or.inr rfl)) (mgs_cons (mg_name (i := 3) sc_alike.nd rfl (by first | exact Or.inl rfl | exact Or.inr rfl)) mgs_nil)))) (fun _ _ _ _ _ => mts_nil) (fun _ _ _ _ _ => (me_call ih (hr.mono (by omega)) rfl T.alike.mgx T.alike.fu.kp T.alike.bd (ma_cons (mv 2) (ma_cons (mv 3) ma_nil))))) ma_nil)))))) mss_nil)
    (mss_cons (ms_if (mt_cmp (op_ne_M hr.units) (me_isi rfl T.z_isinstance (by decide +kernel) rfl T.z_bool (by decide +kernel) (mv 0)) (me_isi rfl T.z_isinstance (by decide +kernel) rfl T.z_bool (by decide +kernel) (mv 1)) (nomark _)) (mss_one (ms_ret me_bl)) mss_nil)
    (mss_one (ms_ret (me_cmp (op_eq_M hr.units) (mv 0) (mv 1) (nomark _))))))
theorem sc__law_pot : FnScope N__law_pot ["_law_script", "_law_k"] (defScope s__law_pot) := ⟨rfl, rfl, rfl, by decide +kernel, rfl, by decide +kernel, by decide +kernel⟩
theorem ok__law_pot (T : Tx K mg) : FnOk P w K mg base CX0 1 T._law_pot.f T._law_pot.fd ["_law_script", "_law_k"] (spM ⟨K, mg⟩ F__law_pot) :=
  fn_mir (k := 0) T._law_pot.fu sc__law_pot fun cdv A outer s H E hr => (mss_cons (ms_set (i := 2) sc__law_pot.nd rfl (by first | exact Or.inl rfl | exact Or.inr rfl) (me_if (mt_cmp op_lt_M (mv 1) (me_callB cb_len rfl T.z_len (by decide +kernel) (ma_cons (mv 0) ma_nil)) (nomark _)) (me_ix ix_M (mv 0) (mv 1) (fun _ _ => rfl)) (me_op op_add_M (me_op op_mul_M me_int (mv 1)) me_int)))
    (mss_cons (ms_set (i := 3) sc__law_pot.nd rfl (by first | exact Or.inl rfl | exact Or.inr rfl) (me_if (mt_cmp op_ge_M (me_callB cb_abs rfl T.z_abs (by decide +kernel) (ma_cons (mv 2) ma_nil)) (me_op op_pow_M me_int me_int) (nomark _)) (me_op op_mod_M (me_callB cb_abs rfl T.z_abs (by decide +kernel) (ma_cons (mv 2) ma_nil)) (me_op op_pow_M (me_op op_pow_M me_int me_int) me_int)) me_int))
    (mss_one (ms_ret (me_lstR (ma_cons (mv 3) (ma_cons (me_op op_mod_M (me_op op_add_M (me_op op_add_M (me_op op_mul_M (me_op op_mod_M (mv 2) me_int) me_int) (me_op op_mul_M (me_op op_mul_M me_int (mv 1)) (mv 1))) me_int) me_int) (ma_cons me_int ma_nil))))))))
theorem sc__law_take : FnScope N__law_take ["_law_pot_here", "_law_size"] (defScope s__law_take) := ⟨rfl, rfl, rfl, by decide +kernel, rfl, by decide +kernel, by decide +kernel⟩
theorem ok__law_take (T : Tx K mg) : FnOk P w K mg base CX0 1 T._law_take.f T._law_take.fd ["_law_pot_here", "_law_size"] (spM ⟨K, mg⟩ F__law_take) :=
  fn_mir (k := 0) T._law_take.fu sc__law_take fun cdv A outer s H E hr => (mss_cons (ms_if (mt_cmp op_gt_M (me_ix ix_M (mv 0) me_int (fun _ _ => rfl)) me_int (nomark _)) (mss_cons (ms_set (i := 4) sc__law_take.nd rfl (by first | exact Or.inl rfl | exact Or.inr rfl) (me_op op_mod_M (me_ix ix_M (mv 0) me_int (fun _ _ => rfl)) (mv 1)))
    (mss_cons (ms_setIx (me_op op_div_M (me_ix ix_M (mv 0) me_int (fun _ _ => rfl)) (mv 1)) (mv 0) me_int)
    (mss_one (ms_ret (mv 4))))) mss_nil)
    (mss_cons (ms_setIx (me_op op_add_M (me_ix ix_M (mv 0) me_int (fun _ _ => rfl)) me_int) (mv 0) me_int)
    (mss_cons (ms_set (i := 2) sc__law_take.nd rfl (by first | exact Or.inl rfl | exact Or.inr rfl) (me_ix ix_M (me_lst (ma_cons me_int (ma_cons me_int (ma_cons me_int (ma_cons me_int (ma_cons me_int ma_nil)))))) (me_op op_mod_M (me_ix ix_M (mv 0) me_int (fun _ _ => rfl)) me_int) (fun _ _ => rfl)))
    (mss_cons (ms_set (i := 3) sc__law_take.nd rfl (by first | exact Or.inl rfl | exact Or.inr rfl) (me_op op_mod_M (me_op op_pow_M (me_op op_add_M (me_op op_add_M (me_ix ix_M (mv 0) me_int (fun _ _ => rfl)) (me_op op_mul_M (me_op op_mul_M me_int (me_ix ix_M (mv 0) me_int (fun _ _ => rfl))) (me_ix ix_M (mv 0) me_int (fun _ _ => rfl)))) me_int) me_int) (mv 2)))
    (mss_one (ms_ret (me_op op_mod_M (me_op op_div_M (me_op op_mod_M (me_op op_mul_M (mv 3) (me_op op_add_M (me_op op_mod_M (mv 3) me_int) (me_op op_mul_M me_int (me_ix ix_M (mv 0) me_int (fun _ _ => rfl))))) me_int) me_int) (mv 1))))))))
theorem sc__law_pick : FnScope N__law_pick ["_law_pot_here", "_law_some"] (defScope s__law_pick) := ⟨rfl, rfl, rfl, by decide +kernel, rfl, by decide +kernel, by decide +kernel⟩
theorem ok__law_pick (T : Tx K mg) : FnOk P w K mg base CX0 2 T._law_pick.f T._law_pick.fd ["_law_pot_here", "_law_some"] (spM ⟨K, mg⟩ F__law_pick) :=
  fn_mir (k := 1) T._law_pick.fu sc__law_pick fun cdv A outer s H E hr => (mss_one (ms_ret (me_ix ix_M (mv 1) (me_call (ok__law_take T) (hr.mono (by omega)) rfl T._law_take.mgx T._law_take.fu.kp T._law_take.bd (ma_cons (mv 0) (ma_cons (me_callB cb_len rfl T.z_len (by decide +kernel) (ma_cons (mv 1) ma_nil)) ma_nil))) (fun _ _ => rfl))))
theorem sc__law_sort : FnScope N__law_sort ["_law_thing"] (defScope s__law_sort) := ⟨rfl, rfl, rfl, by decide +kernel, rfl, by decide +kernel, by decide +kernel⟩
theorem ok__law_sort (T : Tx K mg) : FnOk P w K mg base CX0 1 T._law_sort.f T._law_sort.fd ["_law_thing"] (spM ⟨K, mg⟩ F__law_sort) :=
  fn_mir (k := 0) T._law_sort.fu sc__law_sort fun cdv A outer s H E hr => (mss_cons (ms_if (mt_truth (me_isi rfl T.z_isinstance (by decide +kernel) rfl T.z_bool (by decide +kernel) (mv 0))) (mss_one (ms_ret me_str)) mss_nil)
    (mss_cons (ms_if (mt_truth (me_isi rfl T.z_isinstance (by decide +kernel) rfl T.z_int (by decide +kernel) (mv 0))) (mss_one (ms_ret (me_if (mt_chain op_le_M op_le_M (me_un un_neg_M me_int) (mv 0) me_int) me_str me_non))) mss_nil)
    (mss_cons (ms_if (mt_not (mt_truth (me_isi rfl T.z_isinstance (by decide +kernel) rfl T.z_str (by decide +kernel) (mv 0)))) (mss_one (ms_ret me_non)) mss_nil)
    (mss_cons (ms_asg (me_tup (ma_cons me_str (ma_cons me_str (ma_cons me_int (ma_cons (mv 0) ma_nil))))) (mg_tup rfl (mgs_cons (mg_name (i := 1) sc__law_sort.nd rfl (by first | exact Or.inl rfl | exact Or.inr rfl)) (mgs_cons (mg_name (i := 2) sc__law_sort.nd rfl (by first | exact Or.inl rfl | exact Or.inr rfl)) (mgs_cons (mg_name (i := 3) sc__law_sort.nd rfl (by first | exact Or.inl rfl | exact Or.inr rfl)) (mgs_cons (mg_name (i := 4) sc__law_sort.nd rfl (by first | exact Or.inl rfl | exact Or.inr rfl)) mgs_nil))))))
    (mss_cons (ms_if (mt_w (mw_and (mt_cmp (op_ne_M hr.units) (mv 0) me_str (nomark _)) (mw_and1 (mt_cmp (op_in_M (hu65 hr)) (me_ix ix_M (mv 0) me_int (fun _ _ => rfl)) me_str (by rfl))))) (mss_cons (ms_par3 (i := 2) (j := 3) (l := 4) rfl sc__law_sort.nd rfl rfl rfl (by decide) (by decide) (by decide) rfl rfl rfl (ma_cons (me_if (mt_cmp (op_eq_M hr.units) (me_ix ix_M (mv 0) me_int (fun _ _ => rfl)) me_str (nomark _)) me_str me_str) (ma_cons me_int (ma_cons (me_slice sl_M (mv 0) (mo_some me_int) mo_none) ma_nil))))
    (mss_one (ms_set (i := 1) sc__law_sort.nd rfl (by first | exact Or.inl rfl | exact Or.inr rfl) (me_op op_add_M (mv 1) me_str)))) mss_nil)
    (mss_cons (ms_set (i := 5) sc__law_sort.nd rfl (by first | exact Or.inl rfl | exact Or.inr rfl) (me_and (me_cmp op_le_M (me_callB cb_len rfl T.z_len (by decide +kernel) (ma_cons (mv 4) ma_nil)) (mv 3) (nomark _)) (me_one (me_or (me_cmp (op_eq_M hr.units) (mv 2) me_str (nomark _)) (me_one (me_cmp (op_ne_M hr.units) (mv 4) me_str (nomark _)))))))
    (mss_one (ms_ret (me_if (mt_w (mw_and (mt_truth (mv 5)) (mw_and1 (mt_truth (me_callB (cb_all rfl) rfl T.z_all (by decide +kernel) (ma_cons (me_lc (own := [("_law_sign", 6)]) rfl sc__law_sort.nd (mi_str (mv 4)) (blkOk_by (own := [("_law_sign", 6)]) (N := N__law_sort) (sc := defScope s__law_sort) (by decide +kernel)) (fun _ _ _ _ _ => (mg_name (i := 6) sc__law_sort.nd rfl (by first | exact Or.inl rfl | exact Or.inr rfl))) (fun _ _ _ _ _ => mts_nil) (fun _ _ _ _ _ => (me_cmp (op_in_M (hu65 hr)) (mv 6) (mv 1) (by rfl)))) ma_nil)))))) (mv 2) me_non)))))))))
theorem sc__law_deep : FnScope N__law_deep ["_law_thing"] (defScope s__law_deep) := ⟨rfl, rfl, rfl, by decide +kernel, rfl, by decide +kernel, by decide +kernel⟩
theorem ok__law_deep (T : Tx K mg) : ∀ n : Nat, FnOk P w K mg base CX0 (1 + n) T._law_deep.f T._law_deep.fd ["_law_thing"] (spM ⟨K, mg⟩ (F__law_deep n))
  | 0 => fn_none
  | n + 1 => by
    have ih := ok__law_deep T n
    exact fn_mir (k := 1 + n) T._law_deep.fu sc__law_deep fun cdv A outer s H E hr => (mss_cons (ms_if (mt_not (mt_truth (me_isi rfl T.z_isinstance (by decide +kernel) rfl T.z_tuple (by decide +kernel) (mv 0)))) (mss_one (ms_ret (me_if (mt_cmp op_is_M (me_call (ok__law_sort T) (hr.mono (by omega)) rfl T._law_sort.mgx T._law_sort.fu.kp T._law_sort.bd (ma_cons (mv 0) ma_nil)) me_non (nomark _)) me_non me_int))) mss_nil)
    (mss_cons (ms_setLc (i := 1) (own := [("_law_part", 2)]) rfl sc__law_deep.nd rfl rfl (sw_true rfl rfl rfl (by decide +kernel)) (mi_tup (mv 0)) (blkOk_by (own := [("_law_part", 2)]) (N := N__law_deep) (sc := defScope s__law_deep) (by decide +kernel)) (fun _ _ _ _ _ => (mg_name (i := 2) sc__law_deep.nd rfl (by first | exact Or.inl rfl | exact Or.inr rfl))) (fun _ _ _ _ _ => mts_nil) (fun _ _ _ _ _ => (me_call ih (hr.mono (by omega)) rfl T._law_deep.mgx T._law_deep.fu.kp T._law_deep.bd (ma_cons (mv 2) ma_nil))))
    (mss_cons (ms_if (mt_w (mw_or (mt_cmp op_gt_M (me_callB cb_len rfl T.z_len (by decide +kernel) (ma_cons (mv 0) ma_nil)) me_int (nomark _)) (mw_or1 (mt_cmp (op_in_M (hu65 hr)) me_non (mv 1) (by rfl))))) (mss_one (ms_ret me_non)) mss_nil)
    (mss_one (ms_ret (me_op op_add_M me_int (me_callB (cb_max rfl) rfl T.z_max (by decide +kernel) (ma_cons (me_op op_add_M (me_lst (ma_cons me_int ma_nil)) (mv 1)) ma_nil))))))))
theorem sc__law_plain : FnScope N__law_plain ["_law_pot_here"] (defScope s__law_plain) := ⟨rfl, rfl, rfl, by decide +kernel, rfl, by decide +kernel, by decide +kernel⟩
theorem ok__law_plain (T : Tx K mg) : FnOk P w K mg base CX0 3 T._law_plain.f T._law_plain.fd ["_law_pot_here"] (spM ⟨K, mg⟩ F__law_plain) :=
  fn_mir (k := 2) T._law_plain.fu sc__law_plain fun cdv A outer s H E hr => (mss_cons (ms_set (i := 1) sc__law_plain.nd rfl (by first | exact Or.inl rfl | exact Or.inr rfl) (me_strm PySem.F.slot_str_join PySem.F.type_str_join mb_join me_str (ma_cons (me_lc (own := [("_law_turn", 4)]) rfl sc__law_plain.nd (mi_range1 rfl T.z_range (ma_cons (me_call (ok__law_pick T) (hr.mono (by omega)) rfl T._law_pick.mgx T._law_pick.fu.kp T._law_pick.bd (ma_cons (mv 0) (ma_cons (me_lst (ma_cons me_int (ma_cons me_int (ma_cons me_int (ma_cons me_int (ma_cons me_int (ma_cons me_int ma_nil))))))) ma_nil))) ma_nil)) (blkOk_by (own := [("_law_turn", 4)]) (N := N__law_plain) (sc := defScope s__law_plain) (by decide +kernel)) (fun _ _ _ _ _ => (mg_name (i := 4) sc__law_plain.nd rfl (by first | exact Or.inl rfl | exact Or.inr rfl))) (fun _ _ _ _ _ => mts_nil) (fun _ _ _ _ _ => (me_call (ok__law_pick T) (hr.mono (by omega)) rfl T._law_pick.mgx T._law_pick.fu.kp T._law_pick.bd (ma_cons (mv 0) (ma_cons me_str ma_nil))))) ma_nil)))
    (mss_cons (ms_set (i := 2) sc__law_plain.nd rfl (by first | exact Or.inl rfl | exact Or.inr rfl) (me_lst (ma_cons me_str (ma_cons me_str (ma_cons me_str (ma_cons (me_op op_mul_M me_str me_int) (ma_cons me_str (ma_cons me_str ma_nil))))))))
    (mss_cons (ms_set (i := 3) sc__law_plain.nd rfl (by first | exact Or.inl rfl | exact Or.inr rfl) (me_op op_add_M (me_call (ok__law_pick T) (hr.mono (by omega)) rfl T._law_pick.mgx T._law_pick.fu.kp T._law_pick.bd (ma_cons (mv 0) (ma_cons (me_lst (ma_cons me_str (ma_cons me_str ma_nil))) ma_nil))) (me_call (ok__law_pick T) (hr.mono (by omega)) rfl T._law_pick.mgx T._law_pick.fu.kp T._law_pick.bd (ma_cons (mv 0) (ma_cons (mv 2) ma_nil)))))
    (mss_cons (ms_set (i := 2) sc__law_plain.nd rfl (by first | exact Or.inl rfl | exact Or.inr rfl) (me_lst (ma_cons (me_call (ok__law_take T) (hr.mono (by omega)) rfl T._law_take.mgx T._law_take.fu.kp T._law_take.bd (ma_cons (mv 0) (ma_cons me_int ma_nil))) (ma_cons me_int (ma_cons me_int (ma_cons (me_un un_neg_M me_int) (ma_cons (me_op op_pow_M me_int me_int) (ma_cons (me_un un_neg_M (me_op op_pow_M me_int me_int)) (ma_cons (me_call (ok__law_take T) (hr.mono (by omega)) rfl T._law_take.mgx T._law_take.fu.kp T._law_take.bd (ma_cons (mv 0) (ma_cons (me_op op_pow_M me_int me_int) ma_nil))) ma_nil)))))))))
    (mss_one (ms_ret (me_call (ok__law_pick T) (hr.mono (by omega)) rfl T._law_pick.mgx T._law_pick.fu.kp T._law_pick.bd (ma_cons (mv 0) (ma_cons (me_op op_add_M (mv 2) (me_lst (ma_cons me_bl (ma_cons me_bl (ma_cons (mv 1) (ma_cons (mv 1) (ma_cons (mv 3) ma_nil))))))) ma_nil)))))))))
theorem sc__law_value : FnScope N__law_value ["_law_pot_here", "_law_deep_here"] (defScope s__law_value) := ⟨rfl, rfl, rfl, by decide +kernel, rfl, by decide +kernel, by decide +kernel⟩
theorem ok__law_value (T : Tx K mg) : ∀ n : Nat, FnOk P w K mg base CX0 (3 + n) T._law_value.f T._law_value.fd ["_law_pot_here", "_law_deep_here"] (spM ⟨K, mg⟩ (F__law_value n))
  | 0 => fn_none
  | n + 1 => by
    have ih := ok__law_value T n
    exact fn_mir (k := 3 + n) T._law_value.fu sc__law_value fun cdv A outer s H E hr => (mss_cons (ms_if (mt_w (mw_or (mt_cmp (op_eq_M hr.units) (mv 1) me_int (nomark _)) (mw_or1 (mt_cmp op_gt_M (me_call (ok__law_take T) (hr.mono (by omega)) rfl T._law_take.mgx T._law_take.fu.kp T._law_take.bd (ma_cons (mv 0) (ma_cons me_int ma_nil))) me_int (nomark _))))) (mss_one (ms_ret (me_call (ok__law_plain T) (hr.mono (by omega)) rfl T._law_plain.mgx T._law_plain.fu.kp T._law_plain.bd (ma_cons (mv 0) ma_nil)))) mss_nil)
    (mss_cons (ms_set (i := 2) sc__law_value.nd rfl (by first | exact Or.inl rfl | exact Or.inr rfl) (me_call (ok__law_pick T) (hr.mono (by omega)) rfl T._law_pick.mgx T._law_pick.fu.kp T._law_pick.bd (ma_cons (mv 0) (ma_cons (me_lst (ma_cons me_int (ma_cons me_int (ma_cons me_int (ma_cons me_int (ma_cons me_int (ma_cons (me_if (mt_cmp (op_eq_M hr.units) (mv 1) me_int (nomark _)) me_int me_int) ma_nil))))))) ma_nil))))
    (mss_one (ms_ret (me_callTy cb_tuple rfl T.z_tuple (by decide +kernel) (ma_cons (me_lc (own := [("_law_turn", 3)]) rfl sc__law_value.nd (mi_range1 rfl T.z_range (ma_cons (mv 2) ma_nil)) (blkOk_by (own := [("_law_turn", 3)]) (N := N__law_value) (sc := defScope s__law_value) (by decide +kernel)) (fun _ _ _ _ _ => (mg_name (i := 3) sc__law_value.nd rfl (by first | exact Or.inl rfl | exact Or.inr rfl))) (fun _ _ _ _ _ => mts_nil) (fun _ _ _ _ _ => (me_call ih (hr.mono (by omega)) rfl T._law_value.mgx T._law_value.fu.kp T._law_value.bd (ma_cons (mv 0) (ma_cons (me_op op_sub_M (mv 1) me_int) ma_nil))))) ma_nil))))))
theorem sc__law_near : FnScope N__law_near ["_law_pot_here", "_law_part"] (defScope s__law_near) := ⟨rfl, rfl, rfl, by decide +kernel, rfl, by decide +kernel, by decide +kernel⟩
theorem ok__law_near (T : Tx K mg) : FnOk P w K mg base CX0 3 T._law_near.f T._law_near.fd ["_law_pot_here", "_law_part"] (spM ⟨K, mg⟩ F__law_near) :=
  fn_mir (k := 2) T._law_near.fu sc__law_near fun cdv A outer s H E hr => (mss_cons (ms_set (i := 2) sc__law_near.nd rfl (by first | exact Or.inl rfl | exact Or.inr rfl) (me_lst (ma_cons me_non (ma_cons me_bl (ma_cons me_bl (ma_cons me_int (ma_cons me_int (ma_cons (me_un un_neg_M me_int) (ma_cons (me_op op_add_M (me_op op_pow_M me_int me_int) me_int) (ma_cons me_str (ma_cons me_str (ma_cons me_str (ma_cons me_str (ma_cons me_str (ma_cons me_str (ma_cons (me_tup ma_nil) (ma_cons (me_lst ma_nil) (ma_cons me_dic0 (ma_cons (me_tup (ma_cons me_int ma_nil)) (ma_cons (me_tup (ma_cons (me_tup ma_nil) ma_nil)) ma_nil))))))))))))))))))))
    (mss_cons (ms_if (mt_truth (me_isi rfl T.z_isinstance (by decide +kernel) rfl T.z_tuple (by decide +kernel) (mv 1))) (mss_cons (ms_set (i := 3) sc__law_near.nd rfl (by first | exact Or.inl rfl | exact Or.inr rfl) (me_lst (ma_cons (me_callTy cb_list rfl T.z_list (by decide +kernel) (ma_cons (mv 1) ma_nil)) (ma_cons (me_slice sl_M (mv 1) mo_none (mo_some (me_un un_neg_M me_int))) (ma_cons (me_op op_add_M (mv 1) (me_slice sl_M (mv 1) (mo_some (me_un un_neg_M me_int)) mo_none)) (ma_cons (me_revT (mv 1)) (ma_cons (me_tup (ma_cons (mv 1) ma_nil)) (ma_cons (me_op op_mul_M (mv 1) me_int) (ma_cons (me_op op_add_M (mv 1) (me_tup (ma_cons me_int ma_nil))) ma_nil)))))))))
    (mss_one (ms_set (i := 2) sc__law_near.nd rfl (by first | exact Or.inl rfl | exact Or.inr rfl) (me_op op_add_M (me_slice sl_M (mv 2) mo_none (mo_some me_int)) (me_op op_mul_M (mv 3) me_int))))) (mss_one (ms_if (mt_truth (me_isi rfl T.z_isinstance (by decide +kernel) rfl T.z_str (by decide +kernel) (mv 1))) (mss_cons (ms_set (i := 3) sc__law_near.nd rfl (by first | exact Or.inl rfl | exact Or.inr rfl) (me_lst (ma_cons (me_op op_add_M (mv 1) me_str) (ma_cons (me_slice sl_M (mv 1) mo_none (mo_some (me_un un_neg_M me_int))) (ma_cons (me_strm0 PySem.F.slot_str_upper PySem.F.type_str_upper mb_upper (mv 1)) (ma_cons (me_op op_add_M me_str (mv 1)) (ma_cons (me_op op_add_M me_str (mv 1)) (ma_cons (me_op op_mul_M (mv 1) me_int) (ma_cons (me_op op_add_M (mv 1) me_str) (ma_cons (me_tup (ma_cons (mv 1) ma_nil)) ma_nil))))))))))
    (mss_one (ms_set (i := 2) sc__law_near.nd rfl (by first | exact Or.inl rfl | exact Or.inr rfl) (me_op op_add_M (me_slice sl_M (mv 2) mo_none (mo_some me_int)) (me_op op_mul_M (mv 3) me_int))))) (mss_one (ms_if (mt_truth (me_isi rfl T.z_isinstance (by decide +kernel) rfl T.z_int (by decide +kernel) (mv 1))) (mss_cons (ms_set (i := 3) sc__law_near.nd rfl (by first | exact Or.inl rfl | exact Or.inr rfl) (me_lst (ma_cons (me_op op_add_M (mv 1) me_int) (ma_cons (me_un un_neg_M (mv 1)) (ma_cons (me_callTy cb_str rfl T.z_str (by decide +kernel) (ma_cons (mv 1) ma_nil)) (ma_cons (me_cmp (op_eq_M hr.units) (mv 1) me_int (nomark _)) (ma_cons (me_callTy cb_int rfl T.z_int (by decide +kernel) (ma_cons (mv 1) ma_nil)) (ma_cons (me_op op_sub_M (me_op op_pow_M me_int me_int) (mv 1)) (ma_cons (me_tup (ma_cons (mv 1) ma_nil)) ma_nil)))))))))
    (mss_one (ms_set (i := 2) sc__law_near.nd rfl (by first | exact Or.inl rfl | exact Or.inr rfl) (me_op op_add_M (me_slice sl_M (mv 2) mo_none (mo_some me_int)) (me_op op_mul_M (mv 3) me_int))))) mss_nil)))))
    (mss_one (ms_ret (me_call (ok__law_pick T) (hr.mono (by omega)) rfl T._law_pick.mgx T._law_pick.fu.kp T._law_pick.bd (ma_cons (mv 0) (ma_cons (mv 2) ma_nil)))))))
theorem sc__law_bent : FnScope N__law_bent ["_law_pot_here", "_law_thing", "_law_deep_here"] (defScope s__law_bent) := ⟨rfl, rfl, rfl, by decide +kernel, rfl, by decide +kernel, by decide +kernel⟩
theorem ok__law_bent (T : Tx K mg) : ∀ n : Nat, FnOk P w K mg base CX0 (3 + n) T._law_bent.f T._law_bent.fd ["_law_pot_here", "_law_thing", "_law_deep_here"] (spM ⟨K, mg⟩ (F__law_bent n))
  | 0 => fn_none
  | n + 1 => by
    have ih := ok__law_bent T n
    exact fn_mir (k := 3 + n) T._law_bent.fu sc__law_bent fun cdv A outer s H E hr => (mss_cons (ms_if (mt_w (mw_or (mt_cmp (op_eq_M hr.units) (mv 2) me_int (nomark _)) (mw_or (mt_not (mt_truth (me_isi rfl T.z_isinstance (by decide +kernel) rfl T.z_tuple (by decide +kernel) (mv 1)))) (mw_or (mt_cmp (op_eq_M hr.units) (mv 1) (me_tup ma_nil) (nomark _)) (mw_or1 (mt_cmp (op_eq_M hr.units) (me_call (ok__law_take T) (hr.mono (by omega)) rfl T._law_take.mgx T._law_take.fu.kp T._law_take.bd (ma_cons (mv 0) (ma_cons me_int ma_nil))) me_int (nomark _))))))) (mss_one (ms_ret (me_call (ok__law_near T) (hr.mono (by omega)) rfl T._law_near.mgx T._law_near.fu.kp T._law_near.bd (ma_cons (mv 0) (ma_cons (mv 1) ma_nil))))) mss_nil)
    (mss_cons (ms_set (i := 3) sc__law_bent.nd rfl (by first | exact Or.inl rfl | exact Or.inr rfl) (me_call (ok__law_take T) (hr.mono (by omega)) rfl T._law_take.mgx T._law_take.fu.kp T._law_take.bd (ma_cons (mv 0) (ma_cons (me_callB cb_len rfl T.z_len (by decide +kernel) (ma_cons (mv 1) ma_nil)) ma_nil))))
    (mss_one (ms_ret (me_op op_add_M (me_op op_add_M (me_slice sl_M (mv 1) mo_none (mo_some (mv 3))) (me_tup (ma_cons (me_call ih (hr.mono (by omega)) rfl T._law_bent.mgx T._law_bent.fu.kp T._law_bent.bd (ma_cons (mv 0) (ma_cons (me_ix ix_M (mv 1) (mv 3) (fun _ _ => rfl)) (ma_cons (me_op op_sub_M (mv 2) me_int) ma_nil)))) ma_nil))) (me_slice sl_M (mv 1) (mo_some (me_op op_add_M (mv 3) me_int)) mo_none))))))
theorem sc__law_alike : FnScope N__law_alike ["_law_one", "_law_other"] (defScope s__law_alike) := ⟨rfl, rfl, rfl, by decide +kernel, rfl, by decide +kernel, by decide +kernel⟩
theorem ok__law_alike (T : Tx K mg) : ∀ n : Nat, FnOk P w K mg base CX0 (0 + n) T._law_alike.f T._law_alike.fd ["_law_one", "_law_other"] (spM ⟨K, mg⟩ (F__law_alike n))
  | 0 => fn_none
  | n + 1 => by
    have ih := ok__law_alike T n
    exact fn_mir (k := 0 + n) T._law_alike.fu sc__law_alike fun cdv A outer s H E hr => (mss_cons (ms_if (mt_w (mw_and (mt_truth (me_isi rfl T.z_isinstance (by decide +kernel) rfl T.z_tuple (by decide +kernel) (mv 0))) (mw_and1 (mt_truth (me_isi rfl T.z_isinstance (by decide +kernel) rfl T.z_tuple (by decide +kernel) (mv 1)))))) (mss_one (ms_ret (me_and (me_cmp (op_eq_M hr.units) (me_callB cb_len rfl T.z_len (by decide +kernel) (ma_cons (mv 0) ma_nil)) (me_callB cb_len rfl T.z_len (by decide +kernel) (ma_cons (mv 1) ma_nil)) (nomark _)) (me_one (me_callB (cb_all rfl) rfl T.z_all (by decide +kernel) (ma_cons (me_lc (own := [("_law_part", 2), ("_law_its", 3)]) rfl sc__law_alike.nd (mi_zip rfl T.z_zip (ma_cons (mv 0) (ma_cons (mv 1) ma_nil))) (blkOk_by (own := [("_law_part", 2), ("_law_its", 3)]) (N := N__law_alike) (sc := defScope s__law_alike) (by decide +kernel)) (fun _ _ _ _ _ => (mg_tup rfl (mgs_cons (mg_name (i := 2) sc__law_alike.nd rfl (by first | exact Or.inl rfl | exact Or.inr rfl)) (mgs_cons (mg_name (i := 3) sc__law_alike.nd rfl (by first | exact Or.inl rfl | exact Or.inr rfl)) mgs_nil)))) (fun _ _ _ _ _ => mts_nil) (fun _ _ _ _ _ => (me_call ih (hr.mono (by omega)) rfl T._law_alike.mgx T._law_alike.fu.kp T._law_alike.bd (ma_cons (mv 2) (ma_cons (mv 3) ma_nil))))) ma_nil)))))) mss_nil)
    (mss_one (ms_ret (me_and (me_cmp (op_eq_M hr.units) (me_isi rfl T.z_isinstance (by decide +kernel) rfl T.z_bool (by decide +kernel) (mv 0)) (me_isi rfl T.z_isinstance (by decide +kernel) rfl T.z_bool (by decide +kernel) (mv 1)) (nomark _)) (me_one (me_cmp (op_eq_M hr.units) (mv 0) (mv 1) (nomark _)))))))
theorem sc__law_asked : FnScope N__law_asked ["_law_one", "_law_other"] (defScope s__law_asked) := ⟨rfl, rfl, rfl, by decide +kernel, rfl, by decide +kernel, by decide +kernel⟩
theorem ok__law_asked (T : Tx K mg) : FnOk P w K mg base CX0 9 T._law_asked.f T._law_asked.fd ["_law_one", "_law_other"] (spM ⟨K, mg⟩ F__law_asked) :=
  fn_mir (k := 8) T._law_asked.fu sc__law_asked fun cdv A outer s H E hr => (mss_cons (ms_set (i := 2) sc__law_asked.nd rfl (by first | exact Or.inl rfl | exact Or.inr rfl) (me_call (ok__law_alike T 8) (hr.mono (by omega)) rfl T._law_alike.mgx T._law_alike.fu.kp T._law_alike.bd (ma_cons (mv 0) (ma_cons (mv 1) ma_nil))))
    (mss_one (ms_ret (me_and (me_cmp (op_eq_M hr.units) (me_callB cb_repr rfl T.z_repr (by decide +kernel) (ma_cons (me_call (ok_alike T 8) (hr.mono (by omega)) rfl T.alike.mgx T.alike.fu.kp T.alike.bd (ma_cons (mv 0) (ma_cons (mv 1) ma_nil))) ma_nil)) (me_callB cb_repr rfl T.z_repr (by decide +kernel) (ma_cons (mv 2) ma_nil)) (nomark _)) (me_one (me_cmp (op_eq_M hr.units) (me_callB cb_repr rfl T.z_repr (by decide +kernel) (ma_cons (me_call (ok_alike T 8) (hr.mono (by omega)) rfl T.alike.mgx T.alike.fu.kp T.alike.bd (ma_cons (mv 1) (ma_cons (mv 0) ma_nil))) ma_nil)) (me_callB cb_repr rfl T.z_repr (by decide +kernel) (ma_cons (mv 2) ma_nil)) (nomark _)))))))
theorem sc__law_asked_all : FnScope N__law_asked_all ["_law_one", "_law_some"] (defScope s__law_asked_all) := ⟨rfl, rfl, rfl, by decide +kernel, rfl, by decide +kernel, by decide +kernel⟩
theorem ok__law_asked_all (T : Tx K mg) : FnOk P w K mg base CX0 10 T._law_asked_all.f T._law_asked_all.fd ["_law_one", "_law_some"] (spM ⟨K, mg⟩ F__law_asked_all) :=
  fn_mir (k := 9) T._law_asked_all.fu sc__law_asked_all fun cdv A outer s H E hr => (mss_one (ms_ret (me_callB (cb_all rfl) rfl T.z_all (by decide +kernel) (ma_cons (me_lc (own := [("_law_other", 2)]) rfl sc__law_asked_all.nd (mi_list (mv 1)) (blkOk_by (own := [("_law_other", 2)]) (N := N__law_asked_all) (sc := defScope s__law_asked_all) (by decide +kernel)) (fun _ _ _ _ _ => (mg_name (i := 2) sc__law_asked_all.nd rfl (by first | exact Or.inl rfl | exact Or.inr rfl))) (fun _ _ _ _ _ => mts_nil) (fun _ _ _ _ _ => (me_call (ok__law_asked T) (hr.mono (by omega)) rfl T._law_asked.mgx T._law_asked.fu.kp T._law_asked.bd (ma_cons (mv 0) (ma_cons (mv 2) ma_nil))))) ma_nil))))
theorem sc__law_by_hand : FnScope N__law_by_hand [] (defScope s__law_by_hand) := ⟨rfl, rfl, rfl, by decide +kernel, rfl, by decide +kernel, by decide +kernel⟩
theorem ok__law_by_hand (T : Tx K mg) : FnOk P w K mg base CX0 1 T._law_by_hand.f T._law_by_hand.fd [] (spM ⟨K, mg⟩ F__law_by_hand) :=
  fn_mir (k := 0) T._law_by_hand.fu sc__law_by_hand fun cdv A outer s H E hr => (mss_cons (ms_set (i := 0) sc__law_by_hand.nd rfl (by first | exact Or.inl rfl | exact Or.inr rfl) (me_lst (ma_cons me_bl (ma_cons me_int (ma_cons me_bl (ma_cons me_int (ma_cons me_str (ma_cons (me_tup ma_nil) (ma_cons me_str (ma_cons (me_tup (ma_cons me_int ma_nil)) (ma_cons (me_tup (ma_cons me_bl ma_nil)) (ma_cons (me_tup (ma_cons me_int ma_nil)) (ma_cons (me_tup (ma_cons me_bl ma_nil)) (ma_cons (me_tup (ma_cons (me_tup (ma_cons me_int ma_nil)) ma_nil)) (ma_cons (me_tup (ma_cons (me_tup (ma_cons me_bl ma_nil)) ma_nil)) (ma_cons (me_tup (ma_cons me_str ma_nil)) (ma_cons me_str (ma_cons me_str ma_nil))))))))))))))))))
    (mss_cons (ms_set (i := 0) sc__law_by_hand.nd rfl (by first | exact Or.inl rfl | exact Or.inr rfl) (me_op op_add_M (mv 0) (me_lst (ma_cons me_str (ma_cons (me_tup (ma_cons me_int (ma_cons me_int ma_nil))) (ma_cons (me_tup (ma_cons me_bl (ma_cons me_bl ma_nil))) (ma_cons (me_tup (ma_cons me_int (ma_cons me_bl ma_nil))) (ma_cons (me_tup (ma_cons (me_tup ma_nil) (ma_cons me_int ma_nil))) (ma_cons (me_tup (ma_cons (me_tup ma_nil) (ma_cons me_bl ma_nil))) (ma_cons (me_tup (ma_cons me_str ma_nil)) (ma_cons (me_tup (ma_cons (me_tup ma_nil) ma_nil)) (ma_cons (me_un un_neg_M me_int) (ma_cons me_str (ma_cons me_str ma_nil))))))))))))))
    (mss_one (ms_ret (me_op op_add_M (mv 0) (me_lst (ma_cons me_str ma_nil)))))))
theorem sc__law_right : FnScope N__law_right ["_law_pot_here"] (defScope s__law_right) := ⟨rfl, rfl, rfl, by decide +kernel, rfl, by decide +kernel, by decide +kernel⟩
theorem ok__law_right (T : Tx K mg) : FnOk P w K mg base CX0 12 T._law_right.f T._law_right.fd ["_law_pot_here"] (spM ⟨K, mg⟩ F__law_right) :=
  fn_mir (k := 11) T._law_right.fu sc__law_right fun cdv A outer s H E hr => (mss_cons (ms_set (i := 1) sc__law_right.nd rfl (by first | exact Or.inl rfl | exact Or.inr rfl) (me_lc (own := [("_law_turn", 4)]) rfl sc__law_right.nd (mi_range1 rfl T.z_range (ma_cons me_int ma_nil)) (blkOk_by (own := [("_law_turn", 4)]) (N := N__law_right) (sc := defScope s__law_right) (by decide +kernel)) (fun _ _ _ _ _ => (mg_name (i := 4) sc__law_right.nd rfl (by first | exact Or.inl rfl | exact Or.inr rfl))) (fun _ _ _ _ _ => mts_nil) (fun _ _ _ _ _ => (me_call (ok__law_value T 5) (hr.mono (by omega)) rfl T._law_value.mgx T._law_value.fu.kp T._law_value.bd (ma_cons (mv 0) (ma_cons me_int ma_nil))))))
    (mss_cons (ms_if (mt_not (mt_truth (me_callB (cb_all rfl) rfl T.z_all (by decide +kernel) (ma_cons (me_lc (own := [("_law_one", 2)]) rfl sc__law_right.nd (mi_list (mv 1)) (blkOk_by (own := [("_law_one", 2)]) (N := N__law_right) (sc := defScope s__law_right) (by decide +kernel)) (fun _ _ _ _ _ => (mg_name (i := 2) sc__law_right.nd rfl (by first | exact Or.inl rfl | exact Or.inr rfl))) (fun _ _ _ _ _ => mts_nil) (fun _ _ _ _ _ => (me_call (ok__law_asked_all T) (hr.mono (by omega)) rfl T._law_asked_all.mgx T._law_asked_all.fu.kp T._law_asked_all.bd (ma_cons (mv 2) (ma_cons (mv 1) ma_nil))))) ma_nil)))) (mss_one (ms_ret me_bl)) mss_nil)
    (mss_cons (ms_for PassesOwn.never rfl (mi_list (mv 1)) (mg_name (i := 2) sc__law_right.nd rfl (by first | exact Or.inl rfl | exact Or.inr rfl)) (mss_one (ms_for PassesOwn.never rfl (mi_range1 rfl T.z_range (ma_cons me_int ma_nil)) (mg_name (i := 3) sc__law_right.nd rfl (by first | exact Or.inl rfl | exact Or.inr rfl)) (mss_cons (ms_set (i := 5) sc__law_right.nd rfl (by first | exact Or.inl rfl | exact Or.inr rfl) (me_call (ok__law_bent T 5) (hr.mono (by omega)) rfl T._law_bent.mgx T._law_bent.fu.kp T._law_bent.bd (ma_cons (mv 0) (ma_cons (mv 2) (ma_cons me_int ma_nil)))))
    (mss_cons (ms_set (i := 6) sc__law_right.nd rfl (by first | exact Or.inl rfl | exact Or.inr rfl) (me_call (ok__law_deep T 10) (hr.mono (by omega)) rfl T._law_deep.mgx T._law_deep.fu.kp T._law_deep.bd (ma_cons (mv 5) ma_nil)))
    (mss_one (ms_if (mt_w (mw_and (mt_cmp op_isnot_M (mv 6) me_non (nomark _)) (mw_and (mt_cmp op_le_M (mv 6) me_int (nomark _)) (mw_and1 (mt_not (mt_truth (me_call (ok__law_asked T) (hr.mono (by omega)) rfl T._law_asked.mgx T._law_asked.fu.kp T._law_asked.bd (ma_cons (mv 2) (ma_cons (mv 5) ma_nil))))))))) (mss_one (ms_ret me_bl)) mss_nil)))))))
    (mss_one (ms_ret me_bl)))))
theorem sc_law : FnScope N_law ["_law_script"] (defScope s_law) := ⟨rfl, rfl, rfl, by decide +kernel, rfl, by decide +kernel, by decide +kernel⟩
theorem ok_law (T : Tx K mg) : FnOk P w K mg base CX0 13 T.law.f T.law.fd ["_law_script"] (spM ⟨K, mg⟩ F_law) :=
  fn_mir (k := 12) T.law.fu sc_law fun cdv A outer s H E hr => (mss_cons (ms_for PassesOwn.never rfl (mi_list (me_call0 (ok__law_by_hand T) (hr.mono (by omega)) rfl T._law_by_hand.mgx T._law_by_hand.fu.kp T._law_by_hand.bd)) (mg_name (i := 1) sc_law.nd rfl (by first | exact Or.inl rfl | exact Or.inr rfl)) (mss_one (ms_if (mt_not (mt_truth (me_call (ok__law_asked_all T) (hr.mono (by omega)) rfl T._law_asked_all.mgx T._law_asked_all.fu.kp T._law_asked_all.bd (ma_cons (mv 1) (ma_cons (me_call0 (ok__law_by_hand T) (hr.mono (by omega)) rfl T._law_by_hand.mgx T._law_by_hand.fu.kp T._law_by_hand.bd) ma_nil))))) (mss_one (ms_ret me_bl)) mss_nil)))
    (mss_one (ms_ret (me_callB (cb_all rfl) rfl T.z_all (by decide +kernel) (ma_cons (me_lc (own := [("_law_k", 2)]) rfl sc_law.nd (mi_range1 rfl T.z_range (ma_cons (me_callB (cb_max rfl) rfl T.z_max (by decide +kernel) (ma_cons me_int (ma_cons (me_callB (cb_min rfl) rfl T.z_min (by decide +kernel) (ma_cons me_int (ma_cons (me_callB cb_len rfl T.z_len (by decide +kernel) (ma_cons (mv 0) ma_nil)) ma_nil))) ma_nil))) ma_nil)) (blkOk_by (own := [("_law_k", 2)]) (N := N_law) (sc := defScope s_law) (by decide +kernel)) (fun _ _ _ _ _ => (mg_name (i := 2) sc_law.nd rfl (by first | exact Or.inl rfl | exact Or.inr rfl))) (fun _ _ _ _ _ => mts_nil) (fun _ _ _ _ _ => (me_call (ok__law_right T) (hr.mono (by omega)) rfl T._law_right.mgx T._law_right.fu.kp T._law_right.bd (ma_cons (me_call (ok__law_pot T) (hr.mono (by omega)) rfl T._law_pot.mgx T._law_pot.fu.kp T._law_pot.bd (ma_cons (mv 0) (ma_cons (mv 2) ma_nil))) ma_nil)))) ma_nil)))))
end
end K02
end
section
set_option maxRecDepth 100000
set_option maxHeartbeats 1000000
namespace K02
open PySem L2 Mi
local macro_rules | `(tactic| walk_at "ev") => `(tactic| simp only [Wp_ok, Wp_bind, Wp_quiet, WpS_fl, WpS_then, Nx_nx, Nx_rt, Nx_bk, Nx_ct, mVar_ap, mC_ap, mOp_ap, mUn_ap, mB_ap, mTru_ap, mAnd_ap, mOr_ap, mNot_ap,
  bAnd_ap, bOr_ap, bNot_ap, bYes_ap, mIf_ap, mNil_ap, mCons_ap, mTup_ap, mLst_ap, mLstR_ap, mDic0_ap, mCall_ap, mCb_ap, mMb_ap, mStr_ap, mRevT_ap, mPart_ap, mNoPart_ap, mSl_ap, mChain_ap, itL_ap, itT_ap, itS_ap, itR1_ap,
  sNil_ap, sSeq_ap, sIf_ap, sRet_ap, sRetN_ap, sBrk_ap, sCnt_ap, sExp_ap, sAsg_ap, sPar_ap, sPar3_ap, tgN_ap, tgNil_ap, tgCons_ap, sSetIx_ap, sFor_ap, Wp_mLc,
  List.map_cons, List.map_nil, List.cons_append, List.nil_append, List.replicate_succ, List.replicate_zero, List.getElem?_cons_zero, List.getElem?_cons_succ, List.set_cons_zero, List.set_cons_succ, List.length_cons, List.length_nil,
  Option.some.injEq, Option.bind_some, exists_eq_left, exists_eq_left', true_and, and_true, D.bl.injEq, D.int.injEq, D.str.injEq, D.ref.injEq, D.tup.injEq, D.lst.injEq, List.cons.injEq, if_true, if_false, Bool.false_eq_true, reduceCtorEq, false_and, and_false, or_false, false_or, exists_false])
structure Upd (n : Nat) (s s' : Sto) : Prop where
  len : s'.length = s.length
  at' : ∀ k, k ≠ n → s'[k]? = s[k]?
theorem Upd.refl {n : Nat} {s : Sto} : Upd n s s := ⟨rfl, fun _ _ => rfl⟩
theorem Upd.trans {n : Nat} {s s1 s2 : Sto} (a : Upd n s s1) (b : Upd n s1 s2) : Upd n s s2 := ⟨b.len.trans a.len, fun k h => (b.at' k h).trans (a.at' k h)⟩
theorem Upd.set {n : Nat} {s : Sto} {o : O} : Upd n s (s.set n o) := ⟨by simp, fun k h => List.getElem?_set_ne (Ne.symm h)⟩
def PotAt (s : Sto) (n : Nat) (T : Nat) : Prop := ∃ g m t : Int, s[n]? = some (.lst true [.int g, .int m, .int t]) ∧ 0 ≤ g ∧ 0 ≤ m ∧ m < 2 ^ 61 ∧ 0 ≤ t ∧ t ≤ T
theorem PotAt.mono {s : Sto} {n T T' : Nat} (h : PotAt s n T) (i : T ≤ T') : PotAt s n T' := by
  obtain ⟨g, m, t, e, a, b, c, d, f⟩ := h
  exact ⟨g, m, t, e, a, b, c, d, by omega⟩
theorem set_at {s : Sto} {n : Nat} {o o' : O} (h : s[n]? = some o) : (s.set n o')[n]? = some o' := List.getElem?_set_self (List.getElem?_eq_some_iff.mp h).1
theorem ix_ref {s : Sto} {n : Nat} {m : Bool} {xs : List D} {i : Nat} {d : D} (e : s[n]? = some (.lst m xs)) (h : xs[i]? = some d) : opIx s (.ref n) (.int (i : Int)) = some d := by
  simp only [opIx, asL, e, Option.bind_some]
  exact atI_nat h
theorem ix_lst {s : Sto} {xs : List D} {i : Nat} {d : D} (h : xs[i]? = some d) : opIx s (.lst xs) (.int (i : Int)) = some d := by
  simp only [opIx, asL, Option.bind_some]
  exact atI_nat h
theorem ix_tup {s : Sto} {xs : List D} {i : Nat} {d : D} (h : xs[i]? = some d) : opIx s (.tup xs) (.int (i : Int)) = some d := atI_nat h
theorem ix_str {s : Sto} {x : Str} {i : Nat} {k : Nat} (h : x.cps.toList[i]? = some k) : opIx s (.str x) (.int (i : Int)) = some (.str ⟨#[k]⟩) := by
  show (atI x.cps.toList (i : Int)).map _ = _
  rw [atI_nat h]; rfl
theorem mod_pos {s : Sto} {i j : Int} (h : 0 < j) : opMod s (.int i) (.int j) = some (.int (i % j)) := if_pos h
theorem div_pos {s : Sto} {i j : Int} (h : 0 < j) (h2 : j < 1073741824) : opDiv s (.int i) (.int j) = some (.int (i / j)) := if_pos ⟨h, h2⟩
theorem mul_l {s : Sto} {i j : Int} (h : -(2 ^ 64) < i) (h2 : i < 2 ^ 64) : opMul s (.int i) (.int j) = some (.int (i * j)) := if_pos (.inl ⟨h, h2⟩)
theorem mul_r {s : Sto} {i j : Int} (h : -(2 ^ 64) < j) (h2 : j < 2 ^ 64) : opMul s (.int i) (.int j) = some (.int (i * j)) := if_pos (.inr ⟨h, h2⟩)
theorem intBits_le_of {i : Int} {k : Nat} (h0 : 0 ≤ i) (h : i < 2 ^ k) : Builtin.Int.intBits i ≤ k := by
  refine PyProof.Rows.intBits_le ?_
  have : ((i.natAbs : Nat) : Int) < ((2 ^ k : Nat) : Int) := by
    rw [Int.natCast_pow]
    have : (i.natAbs : Int) = i := Int.natAbs_of_nonneg h0
    rw [this]; exact h
  exact Int.ofNat_lt.mp this
theorem pow_nn {s : Sto} {i : Int} {j k : Nat} (h0 : 0 ≤ i) (h : i < 2 ^ k) (hk : k * j ≤ 2 ^ 27) : opPow s (.int i) (.int (j : Int)) = some (.int (i ^ j)) := by
  have b := intBits_le_of h0 h
  refine if_pos ⟨Int.natCast_nonneg j, ?_⟩
  have : Builtin.Int.intBits i * j ≤ k * j := Nat.mul_le_mul_right j b
  omega
def Dr (s : Sto) (n T : Nat) (P : D → Prop) : D → Sto → Prop := fun d s' => P d ∧ PotAt s' n T ∧ Upd n s s'
theorem Dr.mono {s s0 : Sto} {n T T' : Nat} {P P' : D → Prop} {d : D} {s' : Sto} (h : Dr s n T P d s') (u : Upd n s0 s) (hT : T ≤ T') (hp : P d → P' d) : Dr s0 n T' P' d s' := ⟨hp h.1, h.2.1.mono hT, u.trans h.2.2⟩
theorem take_ok {s : Sto} {n T : Nat} {z : Int} (h : PotAt s n T) (hT : T ≤ 2 ^ 40) (hz : 0 < z) (hz2 : z < 1073741824) :
    Wp (F__law_take [.ref n, .int z] s) (Dr s n (T + 1) fun d => ∃ r, d = .int r ∧ 0 ≤ r ∧ r < z) := by
  unfold Dr
  obtain ⟨g, m, t, e, hg, hm, hm2, ht, hT2⟩ := h
  rw [F__law_take, mFun_ap (n := 2) rfl, b__law_take]
  walk_at "ev"
  refine ⟨_, ix_ref (i := 0) e rfl, _, rfl, _, rfl, ?_⟩
  by_cases c : (0 : Int) < g
  · rw [if_pos (decide_eq_true c)]
    refine ⟨_, ix_ref (i := 0) e rfl, _, mod_pos hz, _, ix_ref (i := 0) e rfl, _, div_pos hz hz2, n, 0, _, 0, rfl, rfl, e, rfl, ⟨_, rfl, Int.emod_nonneg _ (by omega), Int.emod_lt_of_pos _ hz⟩, ?_, Upd.set⟩
    exact ⟨g / z, m, t, set_at e, Int.ediv_nonneg hg (by omega), hm, hm2, ht, by omega⟩
  · rw [if_neg (by simpa using c)]
    have e2 : (s.set n (.lst true [.int g, .int m, .int (t + 1)]))[n]? = some (.lst true [.int g, .int m, .int (t + 1)]) := set_at e
    have b5 := Int.emod_lt_of_pos (t + 1) (show (0 : Int) < 5 by omega)
    have c5 := Int.emod_nonneg (t + 1) (show (5 : Int) ≠ 0 by omega)
    have pr : ∃ (p : Int), opIx (s.set n (.lst true [.int g, .int m, .int (t + 1)])) (.lst [.int 2147483647, .int 2147483629, .int 2147483587, .int 2147483579, .int 2147483563]) (.int ((t + 1) % 5)) = some (.int p) ∧ 0 < p ∧ p ≤ 2147483647 := by
      have : (t + 1) % 5 = 0 ∨ (t + 1) % 5 = 1 ∨ (t + 1) % 5 = 2 ∨ (t + 1) % 5 = 3 ∨ (t + 1) % 5 = 4 := by omega
      rcases this with h | h | h | h | h <;> rw [h]
      · exact ⟨_, ix_lst (i := 0) rfl, by omega, by omega⟩
      · exact ⟨_, ix_lst (i := 1) rfl, by omega, by omega⟩
      · exact ⟨_, ix_lst (i := 2) rfl, by omega, by omega⟩
      · exact ⟨_, ix_lst (i := 3) rfl, by omega, by omega⟩
      · exact ⟨_, ix_lst (i := 4) rfl, by omega, by omega⟩
    obtain ⟨p, hp, hp0, hp1⟩ := pr
    refine ⟨_, ix_ref (i := 2) e rfl, _, rfl, n, 2, _, 2, rfl, rfl, e, rfl, by decide, _, ix_ref (i := 2) e2 rfl, _, mod_pos (by omega), _, hp, ?_⟩
    have hT3 : (T : Int) ≤ 2 ^ 40 := by exact_mod_cast hT
    refine ⟨_, ix_ref (i := 1) e2 rfl, _, ix_ref (i := 2) e2 rfl, _, mul_l (by omega) (by omega), _, ix_ref (i := 2) e2 rfl, _, mul_r (by omega) (by omega), _, rfl, _, rfl, ?_⟩
    have q1 : 0 ≤ 40009 * (t + 1) * (t + 1) := Int.mul_nonneg (by omega) (by omega)
    have q2 : 40009 * (t + 1) * (t + 1) ≤ 40009 * (2 ^ 41) * (2 ^ 41) := Int.mul_le_mul (by omega) (by omega) (by omega) (by omega)
    refine ⟨_, pow_nn (j := 3) (k := 100) (by omega) (by omega) (by decide), _, mod_pos hp0, ?_⟩
    generalize hx : (m + 40009 * (t + 1) * (t + 1) + 31) ^ 3 % p = x
    have x0 : 0 ≤ x := by rw [← hx]; exact Int.emod_nonneg _ (by omega)
    have x1 : x < 2147483647 := by rw [← hx]; have := Int.emod_lt_of_pos ((m + 40009 * (t + 1) * (t + 1) + 31) ^ 3) hp0; omega
    refine ⟨_, mod_pos (by omega), _, ix_ref (i := 2) e2 rfl, _, mul_l (by omega) (by omega), _, rfl, _, mul_l (by omega) (by omega), _, mod_pos (by omega), _, div_pos (by omega) (by omega), _, mod_pos hz, ?_⟩
    refine ⟨⟨_, rfl, Int.emod_nonneg _ (by omega), Int.emod_lt_of_pos _ hz⟩, ⟨g, m, t + 1, e2, hg, hm, hm2, by omega, by omega⟩, Upd.set⟩
theorem at_lt {α : Type} {xs : List α} {r : Int} (h0 : 0 ≤ r) (h : r < xs.length) : ∃ x, atI xs r = some x ∧ x ∈ xs := by
  have hk : r.toNat < xs.length := by omega
  have e : r = ((r.toNat : Nat) : Int) := by omega
  refine ⟨xs[r.toNat], ?_, List.getElem_mem hk⟩
  have z : atI xs ((r.toNat : Nat) : Int) = some xs[r.toNat] := atI_nat (List.getElem?_eq_getElem hk)
  rw [← e] at z
  exact z
theorem pick_lst {s : Sto} {n T : Nat} {xs : List D} (h : PotAt s n T) (hT : T ≤ 2 ^ 40) (hx : xs ≠ []) (hl : xs.length ≤ 1000) : Wp (F__law_pick [.ref n, .lst xs] s) (Dr s n (T + 1) (· ∈ xs)) := by
  rw [F__law_pick, mFun_ap (n := 2) rfl, b__law_pick]
  walk_at "ev"
  have l0 : 0 < xs.length := List.length_pos_iff.mpr hx
  refine ⟨_, rfl, (take_ok h hT (by show (0 : Int) < (xs.length : Int); omega) (by show (xs.length : Int) < 1073741824; omega)).mono fun d s1 ⟨⟨r, e, h0, h1⟩, p1, u1⟩ => ?_⟩
  subst e
  obtain ⟨x, hx, hm⟩ := at_lt h0 h1
  exact ⟨x, hx, hm, p1, u1⟩
theorem pick_str {s : Sto} {n T : Nat} {x : Str} (h : PotAt s n T) (hT : T ≤ 2 ^ 40) (hx : x.cps.toList ≠ []) (hl : x.cps.toList.length ≤ 1000) : Wp (F__law_pick [.ref n, .str x] s) (Dr s n (T + 1) fun d => ∃ k ∈ x.cps.toList, d = .str ⟨#[k]⟩) := by
  rw [F__law_pick, mFun_ap (n := 2) rfl, b__law_pick]
  walk_at "ev"
  have l0 : 0 < x.cps.toList.length := List.length_pos_iff.mpr hx
  have le : (x.length : Int) = (x.cps.toList.length : Int) := by rw [TL.len_tl]
  refine ⟨_, rfl, (take_ok h hT (by show (0 : Int) < (x.length : Int); omega) (by show (x.length : Int) < 1073741824; omega)).mono fun d s1 ⟨⟨r, e, h0, h1⟩, p1, u1⟩ => ?_⟩
  subst e
  obtain ⟨k, hk, hm⟩ := at_lt h0 (show r < (x.cps.toList.length : Int) by omega)
  exact ⟨.str ⟨#[k]⟩, by show (atI x.cps.toList r).map _ = _; rw [hk]; rfl, ⟨k, hm, rfl⟩, p1, u1⟩
/-! a list of draws -/
theorem lc_draw {g : Tg} {fe : ET} {env : Mi.Env} {n c B : Nat} {P : D → Prop} (hg : ∀ d, ∃ e2, g d env = some e2 ∧ ∀ s T, PotAt s n T → T + c ≤ B → Wp (fe e2 s) (Dr s n (T + c) P)) :
    ∀ (ds acc : List D) (s : Sto) (T : Nat), acc.length + ds.length ≤ 1000000 → (∀ x ∈ acc, P x) → PotAt s n T → T + ds.length * c ≤ B →
      Wp (lcGo (fun _ => True) g bYes fe env ds acc s) fun out s' => out.length = acc.length + ds.length ∧ (∀ x ∈ out, P x) ∧ PotAt s' n (T + ds.length * c) ∧ Upd n s s'
  | [], acc, s, T, hl, hp, h, hB => by
    rw [lcGo, if_pos True.intro]
    exact ⟨by simp, hp, h.mono (by simp), Upd.refl⟩
  | d :: r, acc, s, T, hl, hp, h, hB => by
    obtain ⟨e2, he, hw⟩ := hg d
    rw [List.length_cons] at hl hB ⊢
    rw [lcGo, if_pos True.intro, he]
    walk_at "ev"
    rw [Nat.succ_mul] at hB ⊢
    refine (hw s T h (by omega)).mono fun y s1 ⟨hy, p1, u1⟩ => ?_
    rw [if_pos (Nat.lt_of_lt_of_le (show acc.length < 1000001 by omega) (by decide))]
    refine (lc_draw hg r (acc ++ [y]) s1 (T + c) (by simp; omega) (fun x hx => ?_) p1 (by omega)).mono fun out s2 ⟨h1, h2, h3, h4⟩ => ⟨by rw [h1]; simp; omega, h2, h3.mono (by omega), u1.trans h4⟩
    rcases List.mem_append.mp hx with hx | hx
    · exact hp x hx
    · rw [List.mem_singleton.mp hx]; exact hy
/-! ### values -/
def Ok (x : Str) : Prop := x.length ≤ 100 ∧ ∀ c ∈ x.cps.toList, c < 128
def Sc (d : D) : Prop := (∃ b, d = .bl b) ∨ (∃ i, d = .int i ∧ -1000000 ≤ i ∧ i ≤ 1000000) ∨ ∃ x, d = .str x ∧ Ok x
def Vd : Nat → D → Prop
  | 0, d => Sc d
  | k + 1, d => Sc d ∨ ∃ xs, d = .tup xs ∧ xs.length ≤ 16 ∧ ∀ x ∈ xs, Vd k x
theorem Vd.sc {d : D} (h : Sc d) : ∀ k, Vd k d
  | 0 => h
  | _ + 1 => .inl h
theorem Vd.up {d : D} : ∀ {k j : Nat}, Vd k d → k ≤ j → Vd j d
  | 0, _, h, _ => Vd.sc h _
  | k + 1, 0, h, i => absurd i (by omega)
  | k + 1, j + 1, h, i => by
    rcases h with h | ⟨xs, e, l, h⟩
    · exact .inl h
    · exact .inr ⟨xs, e, l, fun x hx => Vd.up (h x hx) (by omega)⟩
theorem Ok.app {x y : Str} (hx : ∀ c ∈ x.cps.toList, c < 128) (hy : ∀ c ∈ y.cps.toList, c < 128) (hl : x.length + y.length ≤ 100) : Ok (x ++ y) := by
  refine ⟨by rw [str_len_app]; exact hl, fun c hc => ?_⟩
  have e : (x ++ y).cps.toList = x.cps.toList ++ y.cps.toList := TL.tl_append x y
  rw [e, List.mem_append] at hc
  exact hc.elim (hx c) (hy c)
theorem join_empty (ys : List Str) : TL.tl (Txt.join "" ys) = (ys.map TL.tl).flatten := by
  rw [TL.join_eq, TL.tl_join]
  have e : TL.tl ("" : Str) = [] := rfl
  rw [e]
  induction ys with
  | nil => rfl
  | cons y r ih =>
    cases r with
    | nil => simp [TL.joinL]
    | cons z r => rw [List.map_cons, List.flatten_cons, ← ih]; rfl
theorem one_join {ds : List D} {A : List Nat} (h : ∀ d ∈ ds, ∃ k ∈ A, d = .str ⟨#[k]⟩) : ∃ ks : List Nat, ds = (ks.map fun k => (⟨#[k]⟩ : Str)).map .str ∧ ks.length = ds.length ∧ ∀ k ∈ ks, k ∈ A := by
  induction ds with
  | nil => exact ⟨[], rfl, rfl, by simp⟩
  | cons d r ih =>
    obtain ⟨ks, e, l, hk⟩ := ih fun x hx => h x (List.mem_cons_of_mem _ hx)
    obtain ⟨k, hkA, rfl⟩ := h d List.mem_cons_self
    refine ⟨k :: ks, by rw [e]; rfl, by simp [l], fun x hx => ?_⟩
    rcases List.mem_cons.mp hx with rfl | hx
    · exact hkA
    · exact hk x hx
theorem ones_flat (ks : List Nat) : ((ks.map fun k => (⟨#[k]⟩ : Str)).map TL.tl).flatten = ks := by
  induction ks with
  | nil => rfl
  | cons k r ih =>
    rw [List.map_cons, List.map_cons, List.flatten_cons, ih]
    rfl
theorem ones_sum (ks : List Nat) : ((ks.map fun k => (⟨#[k]⟩ : Str)).map (·.length)).sum = ks.length := by
  induction ks with
  | nil => rfl
  | cons k r ih => rw [List.map_cons, List.map_cons, List.sum_cons, ih, List.length_cons, Nat.add_comm]; rfl
theorem pow6 {s : Sto} : opPow s (.int 10) (.int 6) = some (.int 1000000) := rfl
theorem a80 {s : Sto} : opMul s (.str "a") (.int 80) = some (.str (repS "a" 80)) := rfl
theorem ok_const {x : Str} (h : (decide (x.length ≤ 80) && x.cps.toList.all fun c => decide (c < 128)) = true) : x.length ≤ 80 ∧ ∀ c ∈ x.cps.toList, c < 128 := by
  rw [Bool.and_eq_true] at h
  exact ⟨of_decide_eq_true h.1, fun c hc => of_decide_eq_true (List.all_eq_true.mp h.2 c hc)⟩
theorem add_lst {s : Sto} {xs ys : List D} (h : xs.length + ys.length ≤ sizeLine) : opAdd s (.lst xs) (.lst ys) = some (.lst (xs ++ ys)) := by simp [opAdd, asL, h]
theorem add_tup {s : Sto} {xs ys : List D} (h : xs.length + ys.length ≤ sizeLine) : opAdd s (.tup xs) (.tup ys) = some (.tup (xs ++ ys)) := by simp [opAdd, h]
theorem add_str {s : Sto} {x y : Str} (h : x.length + y.length ≤ sizeLine) : opAdd s (.str x) (.str y) = some (.str (x ++ y)) := by simp [opAdd, h]
theorem plain_ok {s : Sto} {n T : Nat} (h : PotAt s n T) (hT : T + 30 ≤ 2 ^ 40) : Wp (F__law_plain [.ref n] s) (Dr s n (T + 26) Sc) := by
  rw [F__law_plain, mFun_ap (n := 1) rfl, b__law_plain]
  walk_at "ev"
  refine ⟨by decide, ?_⟩
  refine (pick_lst h (by omega) (by simp) (by simp)).mono fun d s1 ⟨hd, p1, u1⟩ => ?_
  have hj : ∃ j : Int, d = .int j ∧ 0 ≤ j ∧ j ≤ 20 := by
    simp only [List.mem_cons, List.not_mem_nil, or_false] at hd
    rcases hd with h | h | h | h | h | h <;> exact ⟨_, h, by omega, by omega⟩
  obtain ⟨j, rfl, hj0, hj1⟩ := hj
  refine ⟨j, rfl, ⟨by omega, by omega⟩, ?_⟩
  refine Wp.mono (lc_draw (n := n) (c := 1) (B := 2 ^ 40) (P := fun d => ∃ k ∈ ("az09-b" : Str).cps.toList, d = .str ⟨#[k]⟩) ?hg (rangeD 0 j.toNat) [] s1 (T + 1) (by simp [rangeD]; omega) (by simp) p1 (by simp [rangeD]; omega)) ?_
  case hg =>
    intro d
    refine ⟨_, rfl, fun s T h hT => ?_⟩
    simp only [wipeE]
    walk_at "ev"
    exact pick_str h (by omega) (by decide) (by decide)
  intro out s2 ⟨l2, h2, p2, u2⟩
  have l2 : out.length = j.toNat := by simpa [rangeD] using l2
  have p2 : PotAt s2 n (T + 21) := p2.mono (by simp [rangeD]; omega)
  obtain ⟨ks, rfl, lk, hk⟩ := one_join h2
  have okj : Ok (Txt.join "" (ks.map fun k => (⟨#[k]⟩ : Str))) := by
    have e : TL.tl (Txt.join "" (ks.map fun k => (⟨#[k]⟩ : Str))) = ks := by rw [join_empty, ones_flat]
    refine ⟨by rw [TL.len_tl, e]; omega, fun c hc => ?_⟩
    have hc : c ∈ ks := by rw [← e]; exact hc
    exact (ok_const (x := "az09-b") (by decide +kernel)).2 c (hk c hc)
  have ej : mbJoin s2 (.str "") [.lst ((ks.map fun k => (⟨#[k]⟩ : Str)).map .str)] = some (.str (Txt.join "" (ks.map fun k => (⟨#[k]⟩ : Str)))) := by
    simp only [mbJoin, asL, Option.bind_some, allStr_map]
    refine if_pos ⟨?_, Nat.le_trans okj.1 (by decide)⟩
    rw [ones_sum, List.length_map]
    show ks.length + ks.length * 0 ≤ 16777216
    omega
  refine ⟨_, ej, _, a80, by decide, by decide, ?_⟩
  refine (pick_lst p2 (by omega) (by simp) (by simp)).mono fun d3 s3 ⟨hd3, p3, u3⟩ => ?_
  refine (pick_lst p3 (by omega) (by simp) (by simp)).mono fun d4 s4 ⟨hd4, p4, u4⟩ => ?_
  have e3 : ∃ x, d3 = .str x ∧ x.length = 1 ∧ ∀ c ∈ x.cps.toList, c < 128 := by
    simp only [List.mem_cons, List.not_mem_nil, or_false] at hd3
    rcases hd3 with h | h
    · exact ⟨_, h, by decide, (ok_const (by decide +kernel)).2⟩
    · exact ⟨_, h, by decide, (ok_const (by decide +kernel)).2⟩
  have e4 : ∃ x, d4 = .str x ∧ x.length ≤ 80 ∧ ∀ c ∈ x.cps.toList, c < 128 := by
    simp only [List.mem_cons, List.not_mem_nil, or_false] at hd4
    rcases hd4 with h | h | h | h | h | h <;> exact ⟨_, h, ok_const (by decide +kernel)⟩
  obtain ⟨x3, rfl, l3, k3⟩ := e3
  obtain ⟨x4, rfl, l4, k4⟩ := e4
  have sl : 1000 ≤ sizeLine := by decide
  refine ⟨_, add_str (by omega), ?_⟩
  refine (take_ok p4 (by omega) (by omega) (by omega)).mono fun d5 s5 ⟨⟨r5, e5, r50, r51⟩, p5, u5⟩ => ?_
  subst e5
  refine ⟨_, rfl, _, pow6, _, pow6, _, rfl, _, pow6, ?_⟩
  refine (take_ok p5 (by omega) (by omega) (by omega)).mono fun d6 s6 ⟨⟨r6, e6, r60, r61⟩, p6, u6⟩ => ?_
  subst e6
  refine ⟨by decide, by decide, _, add_lst (by show 7 + 5 ≤ sizeLine; omega), ?_⟩
  refine (pick_lst p6 (by omega) (by simp) (by simp)).mono fun d7 s7 ⟨hd7, p7, u7⟩ => ⟨?_, p7.mono (by omega), ((((((u1.trans u2).trans u3).trans u4).trans u5).trans u6).trans u7)⟩
  simp only [List.cons_append, List.nil_append, List.mem_cons, List.not_mem_nil, or_false] at hd7
  rcases hd7 with h | h | h | h | h | h | h | h | h | h | h | h
  · exact .inr (.inl ⟨_, h, by omega, by omega⟩)
  · exact .inr (.inl ⟨_, h, by omega, by omega⟩)
  · exact .inr (.inl ⟨_, h, by omega, by omega⟩)
  · exact .inr (.inl ⟨_, h, by omega, by omega⟩)
  · exact .inr (.inl ⟨_, h, by omega, by omega⟩)
  · exact .inr (.inl ⟨_, h, by omega, by omega⟩)
  · exact .inr (.inl ⟨_, h, by omega, by omega⟩)
  · exact .inl ⟨_, h⟩
  · exact .inl ⟨_, h⟩
  · exact .inr (.inr ⟨_, h, okj⟩)
  · exact .inr (.inr ⟨_, h, okj⟩)
  · exact .inr (.inr ⟨_, h, Ok.app k3 k4 (by omega)⟩)
def valC : Nat → Nat
  | 0 => 30
  | k + 1 => 40 + 16 * valC k
theorem value_ok {n : Nat} : ∀ (k m : Nat) {s : Sto} {T : Nat}, k ≤ m → PotAt s n T → T + valC k ≤ 2 ^ 40 → Wp (F__law_value (m + 1) [.ref n, .int (k : Int)] s) (Dr s n (T + valC k) (Vd k))
  | 0, m, s, T, _, h, hT => by
    rw [F__law_value, mFun_ap (n := 2) rfl, b__law_value]
    walk_at "ev"
    refine ⟨_, rfl, _, rfl, ?_⟩
    rw [if_pos (by rfl)]
    exact (plain_ok h (by have : valC 0 = 30 := rfl; omega)).mono fun d s1 q => q.mono Upd.refl (by have : valC 0 = 30 := rfl; omega) fun z => z
  | k + 1, m, s, T, hm, h, hT => by
    obtain ⟨m, rfl⟩ : ∃ j, m = j + 1 := ⟨m - 1, by omega⟩
    have hv : valC (k + 1) = 40 + 16 * valC k := rfl
    rw [F__law_value, mFun_ap (n := 2) rfl, b__law_value]
    walk_at "ev"
    refine ⟨_, rfl, _, rfl, ?_⟩
    have ne : ∀ (j : Nat), j ≠ 0 → PyData.eqv (.int ((j : Nat) : Int)) (.int 0) = false := fun j hj => by
      show ((j : Int) == 0) = false
      exact beq_eq_false_iff_ne.mpr (by omega)
    rw [ne (k + 1) (by omega), if_neg (by decide)]
    refine (take_ok h (by omega) (by omega) (by omega)).mono fun d1 s1 ⟨⟨r1, e1, r10, r11⟩, p1, u1⟩ => ?_
    subst e1
    refine ⟨_, rfl, _, rfl, ?_⟩
    by_cases c : (0 : Int) < r1
    · rw [if_pos (decide_eq_true c)]
      exact (plain_ok p1 (by omega)).mono fun d s2 q => q.mono u1 (by omega) fun z => Vd.sc z _
    · rw [if_neg (by simpa using c)]
      refine ⟨_, rfl, _, rfl, ?_⟩
      have pickd : ∀ (y : Int), 0 ≤ y → y ≤ 16 → 0 + 1 + 1 + 1 + 1 + 1 + 1 ≤ sizeLine ∧ Wp (F__law_pick [.ref n, .lst [.int 0, .int 1, .int 2, .int 3, .int 3, .int y]] s1) fun d s1' => ∃ j, d = .int j ∧ (-2 ^ 62 ≤ j ∧ j < 2 ^ 62) ∧ Wp (lcGo (fun x => True) (tgN 3) bYes
            (mCall (F__law_value (m + 1)) (mCons (mVar 0) (mCons (mOp opSub (mVar 1) (mC (D.int 1))) mNil)))
            (wipeE [some (D.ref n), some (D.int ((k + 1 : Nat) : Int)), some d, none] [3]) (rangeD 0 j.toNat) [] s1') fun ds s2 => ∃ z, cbTuple s2 [D.lst ds] = some z ∧ Dr s n (T + valC (k + 1)) (Vd (k + 1)) z s2 := by
        intro y y0 y1
        refine ⟨by decide, (pick_lst p1 (by omega) (by simp) (by simp)).mono fun d2 s2 ⟨hd2, p2, u2⟩ => ?_⟩
        have hj : ∃ j : Int, d2 = .int j ∧ 0 ≤ j ∧ j ≤ 16 := by
          simp only [List.mem_cons, List.not_mem_nil, or_false] at hd2
          rcases hd2 with h | h | h | h | h | h <;> exact ⟨_, h, by omega, by omega⟩
        obtain ⟨j, rfl, hj0, hj1⟩ := hj
        refine ⟨j, rfl, ⟨by omega, by omega⟩, ?_⟩
        have lr : (rangeD 0 j.toNat).length = j.toNat := by simp [rangeD]
        have bd : j.toNat * valC k ≤ 16 * valC k := Nat.mul_le_mul_right _ (by omega)
        refine Wp.mono (lc_draw (n := n) (c := valC k) (B := 2 ^ 40) (P := Vd k) ?hg (rangeD 0 j.toNat) [] s2 (T + 2) (by rw [lr]; simp; omega) (by simp) p2 (by rw [lr]; omega)) ?_
        · intro d
          refine ⟨_, rfl, fun s T h hT => ?_⟩
          simp only [wipeE]
          walk_at "ev"
          refine ⟨_, rfl, ?_⟩
          have e : ((k + 1 : Nat) : Int) - 1 = (k : Int) := by omega
          rw [e]
          exact value_ok k m (by omega) h (by omega)
        · intro out s3 ⟨l3, h3, p3, u3⟩
          refine ⟨_, rfl, .inr ⟨out, rfl, ?_, h3⟩, p3.mono (by rw [lr]; omega), (u1.trans u2).trans u3⟩
          rw [l3, lr]; simp; omega
      split
      · exact pickd 16 (by omega) (by omega)
      · exact pickd 2 (by omega) (by omega)
end K02
end
section
set_option maxRecDepth 100000
set_option maxHeartbeats 1000000
namespace K02
open PySem L2 Mi
local macro_rules | `(tactic| walk_at "ev") => `(tactic| simp only [Wp_ok, Wp_bind, Wp_quiet, WpS_fl, WpS_then, Nx_nx, Nx_rt, Nx_bk, Nx_ct, mVar_ap, mC_ap, mOp_ap, mUn_ap, mB_ap, mTru_ap, mAnd_ap, mOr_ap, mNot_ap,
  bAnd_ap, bOr_ap, bNot_ap, bYes_ap, mIf_ap, mNil_ap, mCons_ap, mTup_ap, mLst_ap, mLstR_ap, mDic0_ap, mCall_ap, mCb_ap, mMb_ap, mStr_ap, mRevT_ap, mPart_ap, mNoPart_ap, mSl_ap, mChain_ap, itL_ap, itT_ap, itS_ap, itR1_ap,
  sNil_ap, sSeq_ap, sIf_ap, sRet_ap, sRetN_ap, sBrk_ap, sCnt_ap, sExp_ap, sAsg_ap, sPar_ap, sPar3_ap, tgN_ap, tgNil_ap, tgCons_ap, sSetIx_ap, sFor_ap, Wp_mLc,
  List.map_cons, List.map_nil, List.cons_append, List.nil_append, List.replicate_succ, List.replicate_zero, List.getElem?_cons_zero, List.getElem?_cons_succ, List.set_cons_zero, List.set_cons_succ, List.length_cons, List.length_nil,
  Option.some.injEq, Option.bind_some, exists_eq_left, exists_eq_left', true_and, and_true, D.bl.injEq, D.int.injEq, D.str.injEq, D.ref.injEq, D.tup.injEq, D.lst.injEq, List.cons.injEq, if_true, if_false, Bool.false_eq_true, reduceCtorEq, false_and, and_false, or_false, false_or, exists_false])
local macro_rules | `(tactic| walk_at "isi") => `(tactic| simp only [isi_NoneType_bool, isi_NoneType_int, isi_NoneType_str, isi_NoneType_tuple, isi_NoneType_list, isi_NoneType_dict, isi_bool_bool, isi_bool_int, isi_bool_str, isi_bool_tuple, isi_bool_list, isi_bool_dict,
  isi_int_bool, isi_int_int, isi_int_str, isi_int_tuple, isi_int_list, isi_int_dict, isi_str_bool, isi_str_int, isi_str_str, isi_str_tuple, isi_str_list, isi_str_dict, isi_tuple_bool, isi_tuple_int, isi_tuple_str, isi_tuple_tuple, isi_tuple_list, isi_tuple_dict,
  isi_list_bool, isi_list_int, isi_list_str, isi_list_tuple, isi_list_list, isi_list_dict, isi_dict_bool, isi_dict_int, isi_dict_str, isi_dict_tuple, isi_dict_list, isi_dict_dict, tru_bl, tru_non, Option.some.injEq, exists_eq_left', exists_eq_left, if_true, if_false, Bool.false_eq_true, Bool.not_true, Bool.not_false, true_and, false_and, or_false, false_or, reduceCtorEq, D.bl.injEq])
/-- a list of what does not change the store -/
theorem lc_pair {G : Sto → Prop} {g : Tg} {fe : ET} {env : Mi.Env} {s : Sto} {Rr : D → D → Prop} (hG : G s) :
    ∀ (ds acc : List D), (∀ d ∈ ds, ∃ e2, g d env = some e2 ∧ Wp (fe e2 s) fun y s' => s' = s ∧ Rr d y) → acc.length + ds.length ≤ 1000000 →
      Wp (lcGo G g bYes fe env ds acc s) fun out s' => s' = s ∧ ∃ ys, out = acc ++ ys ∧ Paired Rr ds ys
  | [], acc, _, _ => by
    rw [lcGo, if_pos hG]
    exact ⟨rfl, [], by simp, .nil⟩
  | d :: r, acc, h, hl => by
    obtain ⟨e2, he, hw⟩ := h d List.mem_cons_self
    rw [lcGo, if_pos hG, he]
    rw [List.length_cons] at hl
    walk_at "ev"
    refine hw.mono fun y s1 ⟨e, hy⟩ => ?_
    subst e
    rw [if_pos (Nat.lt_of_lt_of_le (show acc.length < 1000001 by omega) (by decide))]
    refine (lc_pair hG r (acc ++ [y]) (fun x hx => h x (List.mem_cons_of_mem _ hx)) (by simp; omega)).mono fun out s2 ⟨e2, ys, e3, p⟩ => ⟨e2, y :: ys, by rw [e3]; simp, .cons hy p⟩
theorem Paired.mem {α β : Type} {F : α → β → Prop} : ∀ {l : List α} {m : List β} {y : β}, Paired F l m → y ∈ m → ∃ x ∈ l, F x y
  | _, _, _, .nil, h => by simp at h
  | _, _, _, .cons r t, h => by
    rcases List.mem_cons.mp h with rfl | h
    · exact ⟨_, List.mem_cons_self, r⟩
    · obtain ⟨x, hx, f⟩ := Paired.mem t h
      exact ⟨x, List.mem_cons_of_mem _ hx, f⟩
theorem Paired.memL {α β : Type} {F : α → β → Prop} : ∀ {l : List α} {m : List β} {x : α}, Paired F l m → x ∈ l → ∃ y ∈ m, F x y
  | _, _, _, .nil, h => by simp at h
  | _, _, _, .cons r t, h => by
    rcases List.mem_cons.mp h with rfl | h
    · exact ⟨_, List.mem_cons_self, r⟩
    · obtain ⟨x, hx, f⟩ := Paired.memL t h
      exact ⟨x, List.mem_cons_of_mem _ hx, f⟩
/-! ### things of any form -/
def strK (x : Str) : Prop := x.length ≤ 1000 ∧ ∀ c ∈ x.cps.toList, c < 0x110000
def Flat (d : D) : Prop := d = .non ∨ (∃ b, d = .bl b) ∨ (∃ i, d = .int i) ∨ (∃ x, d = .str x ∧ strK x) ∨ (∃ xs, d = .lst xs) ∨ ∃ kvs, d = .dic kvs
def Th : Nat → D → Prop
  | 0, d => Flat d
  | k + 1, d => Flat d ∨ ∃ xs, d = .tup xs ∧ xs.length ≤ 1000 ∧ ∀ x ∈ xs, Th k x
theorem Th.fl {d : D} (h : Flat d) : ∀ k, Th k d
  | 0 => h
  | _ + 1 => .inl h
theorem strOk_of {x : Str} (h : ∀ c ∈ x.cps.toList, c < 0x110000) : PySem.PyData.strOk x = true := by
  unfold PyData.strOk
  rw [← Array.all_toList, List.all_eq_true]
  exact fun c hc => decide_eq_true (h c hc)
theorem shaped_str {x : Str} (h : ∀ c ∈ x.cps.toList, c < 0x110000) : SeqAt.shaped (.str x) = true := by
  unfold SeqAt.shaped
  rw [Bool.and_eq_true]
  exact ⟨by simp only [PyData.canLay0]; exact strOk_of h, by simp [PyData.depth]⟩
theorem ne_str {s : Sto} {x y : Str} (hx : ∀ c ∈ x.cps.toList, c < 0x110000) (hy : ∀ c ∈ y.cps.toList, c < 0x110000) : opNe s (.str x) (.str y) = some (.bl (!(x == y))) := by
  simp only [opNe, pyA, asL, pyD, shaped_str hx, shaped_str hy, and_self, if_true, PyData.eqv]
theorem eq_str {s : Sto} {x y : Str} (hx : ∀ c ∈ x.cps.toList, c < 0x110000) (hy : ∀ c ∈ y.cps.toList, c < 0x110000) : opEq s (.str x) (.str y) = some (.bl (x == y)) := by
  simp only [opEq, pyA, asL, pyD, shaped_str hx, shaped_str hy, and_self, if_true, PyData.eqv]
theorem in_sign {s : Sto} {k : Nat} {y : Str} : opIn s (.str ⟨#[k]⟩) (.str y) = some (.bl (decide (k ∈ y.cps.toList))) := rfl
theorem lit_ok {x : Str} (h : (x.cps.toList.all fun c => decide (c < 128)) = true) : ∀ c ∈ x.cps.toList, c < 0x110000 := fun c hc => Nat.lt_trans (of_decide_eq_true (List.all_eq_true.mp h c hc)) (by decide)
theorem all_bls {ds : List D} {bs : List Bool} (h : ds = bs.map .bl) {s : Sto} : cbAll s [.lst ds] = some (.bl (bs.all id)) := by
  subst h
  simp [cbAll, asL, allBl_map]
theorem lc_signs {env : Mi.Env} {s : Sto} {i j : Nat} {t sg : Str} (hi : i < env.length) (hij : i ≠ j) (hj : env[j]? = some (some (.str sg))) (hl : t.length ≤ 1000) :
    Wp (lcGo (fun _ => True) (tgN i) bYes (mOp opIn (mVar i) (mVar j)) env (signs t) [] s) fun out s' => s' = s ∧ out = (t.cps.toList.map fun c => decide (c ∈ sg.cps.toList)).map .bl := by
  have ls : (signs t).length = t.length := by simp [signs, TL.len_tl]
  refine Wp.mono (lc_pair (Rr := fun d y => ∃ c, d = .str ⟨#[c]⟩ ∧ y = .bl (decide (c ∈ sg.cps.toList))) True.intro (signs t) [] ?h (by rw [ls]; simp; omega)) ?k
  case h =>
    intro d hd
    obtain ⟨c, hc, rfl⟩ := List.mem_map.mp hd
    refine ⟨_, rfl, ?_⟩
    walk_at "ev"
    refine ⟨_, List.getElem?_set_self hi, _, (List.getElem?_set_ne hij).trans hj, _, in_sign, c, rfl, rfl⟩
  case k =>
    intro out s' ⟨e, ys, e2, p⟩
    refine ⟨e, ?_⟩
    rw [e2, List.nil_append]
    clear e e2 ls hl
    unfold signs at p
    generalize t.cps.toList = l at p ⊢
    induction l generalizing ys with
    | nil => cases p; rfl
    | cons c r ih =>
      rw [List.map_cons] at p
      cases p with
      | cons h t =>
        obtain ⟨c', e1, e2⟩ := h
        rw [ih _ t, e2]
        have : c = c' := by
          have := D.str.inj e1
          have := congrArg (fun x : Str => x.cps.toList) this
          simpa using this
        rw [this]; rfl
def TEXT : Str := "abcdefghijklmnopqrstuvwxyz0123456789-"
theorem TEXT_ok : ∀ c ∈ TEXT.cps.toList, c < 128 := fun c hc => of_decide_eq_true (List.all_eq_true.mp (show (TEXT.cps.toList.all fun c => decide (c < 128)) = true by decide +kernel) c hc)
theorem IDS_ok : ∀ c ∈ (TEXT ++ ("./[]" : Str)).cps.toList, c < 128 := fun c hc => of_decide_eq_true (List.all_eq_true.mp (show ((TEXT ++ ("./[]" : Str)).cps.toList.all fun c => decide (c < 128)) = true by decide +kernel) c hc)
theorem all_in {t : List Nat} {A : List Nat} (h : ((t.map fun c => decide (c ∈ A)).all id) = true) : ∀ c ∈ t, c ∈ A := fun c hc => by
  rw [List.all_eq_true] at h
  exact of_decide_eq_true (h _ (List.mem_map.mpr ⟨c, hc, rfl⟩))
theorem cut1 {x : Str} {k : Nat} {r : List Nat} (h : x.cps.toList = k :: r) : (cutS x (some 1) none).cps.toList = r := by
  have l : x.length = r.length + 1 := by rw [TL.len_tl, show TL.tl x = k :: r from h]; rfl
  unfold cutS
  rw [l, h, show (1 : Int) = ((1 : Nat) : Int) from rfl, HT.sIx_nat, HT.sIx_none, show min 1 (r.length + 1) = 1 by omega]
  simp
theorem sort_str {s : Sto} {x : Str} (h : strK x) : Wp (F__law_sort [.str x] s) fun v s' => s' = s ∧ (v = .non ∨ ((∃ w, v = .str w) ∧ Sc (.str x))) := by
  rw [F__law_sort, mFun_ap (n := 1) rfl, b__law_sort]
  simp only [List.map_cons, List.map_nil, List.cons_append, List.nil_append, List.replicate_succ, List.replicate_zero]
  have e0 : ∀ c ∈ ("" : Str).cps.toList, c < 0x110000 := by intro c hc; simp [show ("" : Str).cps.toList = [] from rfl] at hc
  refine seqK (fun e s' => e = [some (.str x), none, none, none, none, none, none] ∧ s = s') ?_ ?_
  · walk_at "ev"; walk_at "isi"
  rintro _ _ ⟨rfl, rfl⟩
  refine seqK (fun e s' => e = [some (.str x), none, none, none, none, none, none] ∧ s = s') ?_ ?_
  · walk_at "ev"; walk_at "isi"
  rintro _ _ ⟨rfl, rfl⟩
  refine seqK (fun e s' => e = [some (.str x), none, none, none, none, none, none] ∧ s = s') ?_ ?_
  · walk_at "ev"; walk_at "isi"
  rintro _ _ ⟨rfl, rfl⟩
  refine seqK (fun e s' => e = [some (.str x), some (.str TEXT), some (.str "text"), some (.int 20), some (.str x), none, none] ∧ s = s') ?_ ?_
  · walk_at "ev"; exact ⟨by decide, _, rfl, rfl⟩
  rintro _ _ ⟨rfl, rfl⟩
  -- which signs, how many, which text
  refine seqK (fun e s' => s = s' ∧ ∃ (sg wd tx : Str) (ms : Int), e = [some (.str x), some (.str sg), some (.str wd), some (.int ms), some (.str tx), none, none] ∧ (∀ c ∈ wd.cps.toList, c < 0x110000) ∧ strK tx ∧
    ((∀ c ∈ tx.cps.toList, c ∈ sg.cps.toList) → (tx.length : Int) ≤ ms → Sc (.str x))) ?_ ?_
  · walk_at "ev"
    refine ⟨_, ne_str h.2 e0, _, rfl, ?_⟩
    have asText : ∃ (sg wd tx : Str) (ms : Int), (TEXT = sg ∧ ("text" : Str) = wd ∧ 20 = ms ∧ x = tx) ∧ (∀ c ∈ wd.cps.toList, c < 0x110000) ∧ strK tx ∧
        ((∀ c ∈ tx.cps.toList, c ∈ sg.cps.toList) → (tx.length : Int) ≤ ms → Sc (.str x)) :=
      ⟨TEXT, "text", x, 20, ⟨rfl, rfl, rfl, rfl⟩, lit_ok (by decide +kernel), h, fun ha hl => .inr (.inr ⟨x, rfl, by omega, fun c hc => TEXT_ok c (ha c hc)⟩)⟩
    by_cases hx : x = ""
    · have hb : (x == "") = true := beq_iff_eq.mpr hx
      rw [hb]
      simp only [Bool.not_true, Bool.false_eq_true, if_false]
      exact asText
    · have hb : (x == "") = false := beq_eq_false_iff_ne.mpr hx
      rw [hb]
      simp only [Bool.not_false, if_true]
      have hl : ∃ k r, x.cps.toList = k :: r := by
        cases e : x.cps.toList with
        | nil => exact absurd (TL.ext_tl (y := "") e) hx
        | cons k r => exact ⟨k, r, rfl⟩
      obtain ⟨k, r, hk⟩ := hl
      refine ⟨_, ix_str (i := 0) (by rw [hk]; rfl), _, in_sign, _, rfl, ?_⟩
      by_cases hm : k ∈ ("#?" : Str).cps.toList
      · rw [if_pos (decide_eq_true hm)]
        have hk128 : k < 128 := of_decide_eq_true (List.all_eq_true.mp (show (("#?" : Str).cps.toList.all fun c => decide (c < 128)) = true by decide +kernel) k hm)
        have one : ∀ c ∈ (⟨#[k]⟩ : Str).cps.toList, c < 0x110000 := by
          intro c hc
          have : c = k := by simpa using hc
          omega
        have lx : x.length = r.length + 1 := by rw [TL.len_tl, show TL.tl x = k :: r from hk]; rfl
        have lc : (cutS x (some 1) none).length = r.length := by rw [TL.len_tl, show TL.tl (cutS x (some 1) none) = r from cut1 hk]
        have asId : ∀ (y : Str), (∀ c ∈ y.cps.toList, c < 0x110000) → ∃ z, slD s (D.str x) (some 1) none = some z ∧ ∃ d e f, (D.str y = d ∧ D.int 80 = e ∧ z = f) ∧ ∃ z, opAdd s (D.str TEXT) (D.str "./[]") = some z ∧
            ∃ (sg wd tx : Str) (ms : Int), (z = D.str sg ∧ d = D.str wd ∧ e = D.int ms ∧ f = D.str tx) ∧ (∀ c ∈ wd.cps.toList, c < 0x110000) ∧ strK tx ∧ ((∀ c ∈ tx.cps.toList, c ∈ sg.cps.toList) → (tx.length : Int) ≤ ms → Sc (.str x)) := by
          intro y hy
          refine ⟨_, rfl, _, _, _, ⟨rfl, rfl, rfl⟩, _, add_str (by decide), TEXT ++ "./[]", y, cutS x (some 1) none, 80, ⟨rfl, rfl, rfl, rfl⟩, hy, ⟨by have := h.1; omega, fun c hc => ?_⟩, fun ha hl => .inr (.inr ⟨x, rfl, by omega, fun c hc => ?_⟩)⟩
          · rw [cut1 hk] at hc
            exact h.2 c (by rw [hk]; exact List.mem_cons_of_mem _ hc)
          · rw [hk] at hc
            rcases List.mem_cons.mp hc with rfl | hc
            · exact hk128
            · exact IDS_ok c (ha c (by rw [cut1 hk]; exact hc))
        refine ⟨_, ix_str (i := 0) (by rw [hk]; rfl), _, eq_str one (lit_ok (by decide +kernel)), _, rfl, ?_⟩
        split
        · exact asId "id" (lit_ok (by decide +kernel))
        · exact asId "unknown" (lit_ok (by decide +kernel))
      · rw [if_neg (by simpa using hm)]
        exact asText
  rintro _ _ ⟨rfl, sg, wd, tx, ms, rfl, hw, ht, fin⟩
  refine seqK (fun e s' => s = s' ∧ ∃ b : Bool, e = [some (.str x), some (.str sg), some (.str wd), some (.int ms), some (.str tx), some (.bl b), none] ∧ (b = true → (tx.length : Int) ≤ ms)) ?_ ?_
  · walk_at "ev"
    refine ⟨_, rfl, _, rfl, ?_⟩
    by_cases hl : (tx.length : Int) ≤ ms
    · refine .inl ⟨by show some (decide ((tx.length : Int) ≤ ms)) = _; rw [decide_eq_true hl], _, eq_str hw (lit_ok (by decide +kernel)), ?_⟩
      by_cases hwt : wd = "text"
      · exact .inr ⟨by rw [hwt]; rfl, true, by rw [hwt]; rfl, fun _ => hl⟩
      · refine .inl ⟨by rw [beq_eq_false_iff_ne.mpr hwt]; rfl, _, ne_str ht.2 e0, _, rfl, fun _ => hl⟩
    · exact .inr ⟨by show some (decide ((tx.length : Int) ≤ ms)) = _; rw [decide_eq_false hl], false, by show D.bl (decide ((tx.length : Int) ≤ ms)) = _; rw [decide_eq_false hl], fun z => absurd z (by decide)⟩
  rintro _ _ ⟨rfl, b, rfl, hb⟩
  walk_at "ev"
  refine ⟨b, rfl, ?_⟩
  cases b with
  | false => rw [if_neg (by decide)]; trivial
  | true =>
    rw [if_pos rfl]
    refine Wp.mono (lc_signs (by show 6 < 7; decide) (by decide) rfl ht.1) ?_
    intro out s2 ⟨e, eo⟩
    subst e
    refine ⟨_, all_bls eo, _, rfl, ?_⟩
    split
    · rename_i ha
      exact ⟨rfl, ⟨_, rfl⟩, fin (all_in ha) (hb rfl)⟩
    · rfl
theorem sort_ok {s : Sto} {d : D} (h : Flat d) : Wp (F__law_sort [d] s) fun v s' => s' = s ∧ (v = .non ∨ ((∃ w, v = .str w) ∧ Sc d)) := by
  rcases h with rfl | ⟨b, rfl⟩ | ⟨i, rfl⟩ | ⟨x, rfl, hx⟩ | ⟨xs, rfl⟩ | ⟨kvs, rfl⟩
  · rw [F__law_sort, mFun_ap (n := 1) rfl, b__law_sort]
    simp only [List.map_cons, List.map_nil, List.cons_append, List.nil_append, List.replicate_succ, List.replicate_zero]
    refine seqK (fun e s' => e = [some .non, none, none, none, none, none, none] ∧ s = s') ?_ ?_
    · walk_at "ev"; walk_at "isi"
    rintro _ _ ⟨rfl, rfl⟩
    refine seqK (fun e s' => e = [some .non, none, none, none, none, none, none] ∧ s = s') ?_ ?_
    · walk_at "ev"; walk_at "isi"
    rintro _ _ ⟨rfl, rfl⟩
    refine seqK (fun e s' => False) ?_ fun _ _ h => h.elim
    walk_at "ev"; walk_at "isi"
  · rw [F__law_sort, mFun_ap (n := 1) rfl, b__law_sort]
    simp only [List.map_cons, List.map_nil, List.cons_append, List.nil_append, List.replicate_succ, List.replicate_zero]
    refine seqK (fun e s' => False) ?_ fun _ _ h => h.elim
    walk_at "ev"; walk_at "isi"
    exact ⟨⟨_, rfl⟩, .inl ⟨b, rfl⟩⟩
  · rw [F__law_sort, mFun_ap (n := 1) rfl, b__law_sort]
    simp only [List.map_cons, List.map_nil, List.cons_append, List.nil_append, List.replicate_succ, List.replicate_zero]
    refine seqK (fun e s' => e = [some (.int i), none, none, none, none, none, none] ∧ s = s') ?_ ?_
    · walk_at "ev"; walk_at "isi"
    rintro _ _ ⟨rfl, rfl⟩
    refine seqK (fun e s' => False) ?_ fun _ _ h => h.elim
    walk_at "ev"; walk_at "isi"
    refine ⟨_, rfl, ?_⟩
    by_cases h1 : (-1000000 : Int) ≤ i
    · refine .inl ⟨by show some (D.bl (decide ((-1000000 : Int) ≤ i))) = _; rw [decide_eq_true h1], _, rfl, _, rfl, ?_⟩
      by_cases h2 : i ≤ 1000000
      · rw [if_pos (decide_eq_true h2)]
        exact ⟨⟨_, rfl⟩, .inr (.inl ⟨i, rfl, h1, h2⟩)⟩
      · rw [if_neg (by simpa using h2)]; trivial
    · exact .inr (by show some (D.bl (decide ((-1000000 : Int) ≤ i))) = _; rw [decide_eq_false h1])
  · exact sort_str hx
  · rw [F__law_sort, mFun_ap (n := 1) rfl, b__law_sort]
    simp only [List.map_cons, List.map_nil, List.cons_append, List.nil_append, List.replicate_succ, List.replicate_zero]
    refine seqK (fun e s' => e = [some (.lst xs), none, none, none, none, none, none] ∧ s = s') ?_ ?_
    · walk_at "ev"; walk_at "isi"
    rintro _ _ ⟨rfl, rfl⟩
    refine seqK (fun e s' => e = [some (.lst xs), none, none, none, none, none, none] ∧ s = s') ?_ ?_
    · walk_at "ev"; walk_at "isi"
    rintro _ _ ⟨rfl, rfl⟩
    refine seqK (fun e s' => False) ?_ fun _ _ h => h.elim
    walk_at "ev"; walk_at "isi"
  · rw [F__law_sort, mFun_ap (n := 1) rfl, b__law_sort]
    simp only [List.map_cons, List.map_nil, List.cons_append, List.nil_append, List.replicate_succ, List.replicate_zero]
    refine seqK (fun e s' => e = [some (.dic kvs), none, none, none, none, none, none] ∧ s = s') ?_ ?_
    · walk_at "ev"; walk_at "isi"
    rintro _ _ ⟨rfl, rfl⟩
    refine seqK (fun e s' => e = [some (.dic kvs), none, none, none, none, none, none] ∧ s = s') ?_ ?_
    · walk_at "ev"; walk_at "isi"
    rintro _ _ ⟨rfl, rfl⟩
    refine seqK (fun e s' => False) ?_ fun _ _ h => h.elim
    walk_at "ev"; walk_at "isi"
end K02
end
section
set_option maxRecDepth 100000
set_option maxHeartbeats 1000000
namespace K02
open PySem L2 Mi
local macro_rules | `(tactic| walk_at "ev") => `(tactic| simp only [Wp_ok, Wp_bind, Wp_quiet, WpS_fl, WpS_then, Nx_nx, Nx_rt, Nx_bk, Nx_ct, mVar_ap, mC_ap, mOp_ap, mUn_ap, mB_ap, mTru_ap, mAnd_ap, mOr_ap, mNot_ap,
  bAnd_ap, bOr_ap, bNot_ap, bYes_ap, mIf_ap, mNil_ap, mCons_ap, mTup_ap, mLst_ap, mLstR_ap, mDic0_ap, mCall_ap, mCb_ap, mMb_ap, mStr_ap, mRevT_ap, mPart_ap, mNoPart_ap, mSl_ap, mChain_ap, itL_ap, itT_ap, itS_ap, itR1_ap,
  sNil_ap, sSeq_ap, sIf_ap, sRet_ap, sRetN_ap, sBrk_ap, sCnt_ap, sExp_ap, sAsg_ap, sPar_ap, sPar3_ap, tgN_ap, tgNil_ap, tgCons_ap, sSetIx_ap, sFor_ap, Wp_mLc,
  List.map_cons, List.map_nil, List.cons_append, List.nil_append, List.replicate_succ, List.replicate_zero, List.getElem?_cons_zero, List.getElem?_cons_succ, List.set_cons_zero, List.set_cons_succ, List.length_cons, List.length_nil,
  Option.some.injEq, Option.bind_some, exists_eq_left, exists_eq_left', true_and, and_true, D.bl.injEq, D.int.injEq, D.str.injEq, D.ref.injEq, D.tup.injEq, D.lst.injEq, List.cons.injEq, if_true, if_false, Bool.false_eq_true, reduceCtorEq, false_and, and_false, or_false, false_or, exists_false])
local macro_rules | `(tactic| walk_at "isi") => `(tactic| simp only [isi_NoneType_bool, isi_NoneType_int, isi_NoneType_str, isi_NoneType_tuple, isi_NoneType_list, isi_NoneType_dict, isi_bool_bool, isi_bool_int, isi_bool_str, isi_bool_tuple, isi_bool_list, isi_bool_dict,
  isi_int_bool, isi_int_int, isi_int_str, isi_int_tuple, isi_int_list, isi_int_dict, isi_str_bool, isi_str_int, isi_str_str, isi_str_tuple, isi_str_list, isi_str_dict, isi_tuple_bool, isi_tuple_int, isi_tuple_str, isi_tuple_tuple, isi_tuple_list, isi_tuple_dict,
  isi_list_bool, isi_list_int, isi_list_str, isi_list_tuple, isi_list_list, isi_list_dict, isi_dict_bool, isi_dict_int, isi_dict_str, isi_dict_tuple, isi_dict_list, isi_dict_dict, tru_bl, tru_non, Option.some.injEq, exists_eq_left', exists_eq_left, if_true, if_false, Bool.false_eq_true, Bool.not_true, Bool.not_false, true_and, false_and, or_false, false_or, reduceCtorEq, D.bl.injEq])

/-- what a depth is -/
def Dp1 (y : D) : Prop := y = .non ∨ ∃ j : Nat, y = .int (j : Int)
theorem deps_py : ∀ {ys : List D}, (∀ y ∈ ys, Dp1 y) → ∃ ds, pyDs ys = some ds ∧ PyData.canLayAll0 ds = true ∧ PyData.depthAll ds = 0 ∧ ((ds.any fun z => PyData.eqv z .none) = true ↔ D.non ∈ ys)
  | [], _ => ⟨[], rfl, rfl, rfl, by simp⟩
  | y :: r, h => by
    obtain ⟨ds, e, c, dp, iff⟩ := deps_py fun z hz => h z (List.mem_cons_of_mem _ hz)
    rcases h y List.mem_cons_self with rfl | ⟨j, rfl⟩
    · exact ⟨.none :: ds, by simp [pyDs, pyD, e], by simp [PyData.canLayAll0, PyData.canLay0, c], by simp [PyData.depthAll, PyData.depth, dp], by simp [PyData.eqv]⟩
    · refine ⟨.int j :: ds, by simp [pyDs, pyD, e], by simp [PyData.canLayAll0, PyData.canLay0, c], by simp [PyData.depthAll, PyData.depth, dp], ?_⟩
      rw [List.any_cons, Bool.or_eq_true, iff]
      simp [PyData.eqv]
theorem non_in {s : Sto} {ys : List D} (h : ∀ y ∈ ys, Dp1 y) : ∃ b, opIn s .non (.lst ys) = some (.bl b) ∧ (b = true ↔ D.non ∈ ys) := by
  obtain ⟨ds, e, c, dp, iff⟩ := deps_py h
  refine ⟨_, ?_, iff⟩
  have s1 : SeqAt.shaped .none = true := by decide
  have s2 : SeqAt.shaped (.list ds) = true := by
    unfold SeqAt.shaped
    rw [Bool.and_eq_true]
    exact ⟨by simp only [PyData.canLay0]; exact c, by simp only [PyData.depth, dp]; decide⟩
  simp only [opIn, inB, asL, e, pyD, s1, s2, and_self, if_true, Option.map_some]
theorem deps_int : ∀ {ys : List D}, (∀ y ∈ ys, Dp1 y) → D.non ∉ ys → ∃ ns : List Int, ys = ns.map .int ∧ ∀ n ∈ ns, 0 ≤ n
  | [], _, _ => ⟨[], rfl, by simp⟩
  | y :: r, h, hn => by
    obtain ⟨ns, e, p⟩ := deps_int (fun z hz => h z (List.mem_cons_of_mem _ hz)) fun z => hn (List.mem_cons_of_mem _ z)
    rcases h y List.mem_cons_self with rfl | ⟨j, rfl⟩
    · exact absurd List.mem_cons_self hn
    · refine ⟨(j : Int) :: ns, by rw [e]; rfl, fun n hn => ?_⟩
      rcases List.mem_cons.mp hn with rfl | hn
      · omega
      · exact p n hn
theorem deep_flat {s : Sto} {d : D} (h : Flat d) (m : Nat) : Wp (F__law_deep (m + 1) [d] s) fun v s' => s' = s ∧ (v = .non ∨ ∃ j : Nat, v = .int (j : Int) ∧ Vd j d) := by
  have key : isiD "tuple" s d = some (.bl false) := by
    rcases h with rfl | ⟨b, rfl⟩ | ⟨i, rfl⟩ | ⟨x, rfl, hx⟩ | ⟨xs, rfl⟩ | ⟨kvs, rfl⟩ <;> simp
  rw [F__law_deep, mFun_ap (n := 1) rfl, b__law_deep]
  simp only [List.map_cons, List.map_nil, List.cons_append, List.nil_append, List.replicate_succ, List.replicate_zero]
  refine seqK (fun e s' => False) ?_ fun _ _ h => h.elim
  walk_at "ev"
  refine ⟨_, key, _, rfl, ?_⟩
  simp only [Bool.not_false, if_true]
  refine (sort_ok h).mono fun v s1 ⟨e, hv⟩ => ?_
  subst e
  rcases hv with rfl | ⟨⟨w, rfl⟩, hs⟩
  · exact ⟨_, rfl, _, rfl, by simp [isNonD]⟩
  · refine ⟨_, rfl, _, rfl, ?_⟩
    simp only [isNonD, Bool.false_eq_true, if_false]
    exact ⟨trivial, 0, rfl, hs⟩
theorem deep_ok {s : Sto} : ∀ (k m : Nat) {d : D}, k ≤ m → Th k d → Wp (F__law_deep (m + 1) [d] s) fun v s' => s' = s ∧ (v = .non ∨ ∃ j : Nat, v = .int (j : Int) ∧ Vd j d)
  | 0, m, d, _, h => deep_flat h m
  | k + 1, m, d, hm, h => by
    rcases h with h | ⟨xs, rfl, hl, hx⟩
    · exact deep_flat h m
    obtain ⟨m, rfl⟩ : ∃ j, m = j + 1 := ⟨m - 1, by omega⟩
    rw [F__law_deep, mFun_ap (n := 1) rfl, b__law_deep]
    simp only [List.map_cons, List.map_nil, List.cons_append, List.nil_append, List.replicate_succ, List.replicate_zero]
    refine seqK (fun e s' => e = [some (.tup xs), none, none] ∧ s = s') ?_ ?_
    · walk_at "ev"; walk_at "isi"
    rintro _ _ ⟨rfl, rfl⟩
    refine seqK (fun e s' => s = s' ∧ ∃ ys, e = [some (.tup xs), some (.lst ys), none] ∧ Paired (fun x y => y = .non ∨ ∃ j : Nat, y = .int (j : Int) ∧ Vd j x) xs ys) ?_ ?_
    · walk_at "ev"
      refine Wp.mono (lc_pair (Rr := fun x y => y = .non ∨ ∃ j : Nat, y = .int (j : Int) ∧ Vd j x) True.intro xs [] ?h (by simp; omega)) ?k
      case h =>
        intro x hxm
        refine ⟨_, rfl, ?_⟩
        simp only [wipeE]
        walk_at "ev"
        exact deep_ok k m (by omega) (hx x hxm)
      case k =>
        intro out s1 ⟨e, ys, e2, p⟩
        subst e
        rw [List.nil_append] at e2
        subst e2
        exact ⟨rfl, p⟩
    rintro _ _ ⟨rfl, ys, rfl, p⟩
    have hy : ∀ y ∈ ys, Dp1 y := fun y hy => by
      obtain ⟨x, _, h⟩ := Paired.mem p hy
      rcases h with h | ⟨j, h, _⟩
      · exact .inl h
      · exact .inr ⟨j, h⟩
    refine seqK (fun e s' => s = s' ∧ e = [some (.tup xs), some (.lst ys), none] ∧ xs.length ≤ 16 ∧ D.non ∉ ys) ?_ ?_
    · walk_at "ev"
      refine ⟨_, rfl, _, rfl, _, rfl, ?_⟩
      by_cases c : (16 : Int) < (xs.length : Int)
      · rw [if_pos (decide_eq_true c)]; simp
      · rw [if_neg (by simpa using c)]
        obtain ⟨b, e, iff⟩ := non_in (s := s) hy
        refine ⟨_, e, b, rfl, ?_⟩
        cases b with
        | true => simp
        | false =>
          simp only [Bool.false_eq_true, if_false]
          exact ⟨by omega, fun z => absurd (iff.mpr z) (by decide)⟩
    rintro _ _ ⟨rfl, rfl, l16, hn⟩
    obtain ⟨ns, rfl, pos⟩ := deps_int hy hn
    walk_at "ev"
    have lp := Paired.length p
    rw [List.length_map] at lp
    have sl : sizeLine = 16777216 := sizeLine_eq
    refine ⟨by decide, _, add_lst (by simp; omega), .int (maxI (0 :: ns)), ?_, .int (1 + maxI (0 :: ns)), rfl, .inr ⟨(1 + maxI (0 :: ns)).toNat, ?_, ?_⟩⟩
    · show (match ((asL s (.lst ([D.int 0] ++ ns.map D.int))).bind allInt) with | some (n :: ns) => some (D.int (maxI (n :: ns))) | _ => none) = _
      have e : asL s (.lst ([D.int 0] ++ ns.map D.int)) = some ((0 :: ns).map D.int) := rfl
      rw [e, Option.bind_some, allInt_map]
    · have h0 := (maxI_max (0 :: ns) (by simp)).2 0 (by simp)
      congr 1
      omega
    · have h0 := (maxI_max (0 :: ns) (by simp)).2 0 (by simp)
      have e : (1 + maxI (0 :: ns)).toNat = (maxI (0 :: ns)).toNat + 1 := by omega
      rw [e]
      refine .inr ⟨xs, rfl, l16, fun x hxm => ?_⟩
      obtain ⟨y, hym, h⟩ := Paired.memL p hxm
      rcases h with rfl | ⟨j, rfl, hv⟩
      · exact absurd hym hn
      · refine hv.up ?_
        obtain ⟨n, hnm, en⟩ := List.mem_map.mp hym
        have e : n = (j : Int) := D.int.inj en
        have := (maxI_max (0 :: ns) (by simp)).2 n (List.mem_cons_of_mem _ hnm)
        omega
end K02
end
section
set_option maxRecDepth 100000
set_option maxHeartbeats 1000000
namespace K02
open PySem L2 Mi
local macro_rules | `(tactic| walk_at "ev") => `(tactic| simp only [Wp_ok, Wp_bind, Wp_quiet, WpS_fl, WpS_then, Nx_nx, Nx_rt, Nx_bk, Nx_ct, mVar_ap, mC_ap, mOp_ap, mUn_ap, mB_ap, mTru_ap, mAnd_ap, mOr_ap, mNot_ap,
  bAnd_ap, bOr_ap, bNot_ap, bYes_ap, mIf_ap, mNil_ap, mCons_ap, mTup_ap, mLst_ap, mLstR_ap, mDic0_ap, mCall_ap, mCb_ap, mMb_ap, mStr_ap, mRevT_ap, mPart_ap, mNoPart_ap, mSl_ap, mChain_ap, itL_ap, itT_ap, itS_ap, itR1_ap,
  sNil_ap, sSeq_ap, sIf_ap, sRet_ap, sRetN_ap, sBrk_ap, sCnt_ap, sExp_ap, sAsg_ap, sPar_ap, sPar3_ap, tgN_ap, tgNil_ap, tgCons_ap, sSetIx_ap, sFor_ap, Wp_mLc,
  List.map_cons, List.map_nil, List.cons_append, List.nil_append, List.replicate_succ, List.replicate_zero, List.getElem?_cons_zero, List.getElem?_cons_succ, List.set_cons_zero, List.set_cons_succ, List.length_cons, List.length_nil,
  Option.some.injEq, Option.bind_some, exists_eq_left, exists_eq_left', true_and, and_true, D.bl.injEq, D.int.injEq, D.str.injEq, D.ref.injEq, D.tup.injEq, D.lst.injEq, List.cons.injEq, if_true, if_false, Bool.false_eq_true, reduceCtorEq, false_and, and_false, or_false, false_or, exists_false])
local macro_rules | `(tactic| walk_at "isi") => `(tactic| simp only [isi_NoneType_bool, isi_NoneType_int, isi_NoneType_str, isi_NoneType_tuple, isi_NoneType_list, isi_NoneType_dict, isi_bool_bool, isi_bool_int, isi_bool_str, isi_bool_tuple, isi_bool_list, isi_bool_dict,
  isi_int_bool, isi_int_int, isi_int_str, isi_int_tuple, isi_int_list, isi_int_dict, isi_str_bool, isi_str_int, isi_str_str, isi_str_tuple, isi_str_list, isi_str_dict, isi_tuple_bool, isi_tuple_int, isi_tuple_str, isi_tuple_tuple, isi_tuple_list, isi_tuple_dict,
  isi_list_bool, isi_list_int, isi_list_str, isi_list_tuple, isi_list_list, isi_list_dict, isi_dict_bool, isi_dict_int, isi_dict_str, isi_dict_tuple, isi_dict_list, isi_dict_dict, tru_bl, tru_non, Option.some.injEq, exists_eq_left', exists_eq_left, if_true, if_false, Bool.false_eq_true, Bool.not_true, Bool.not_false, true_and, false_and, or_false, false_or, reduceCtorEq, D.bl.injEq])

theorem num_str {i : Int} (h0 : -1000000 ≤ i) (h1 : i ≤ 1000000) : strK (toString i) := by
  have nat : ∀ n : Nat, n ≤ 1000000 → (TL.tl (Str.ofString (toString ((n : Nat) : Int)))).length ≤ 7 ∧ ∀ c ∈ TL.tl (Str.ofString (toString ((n : Nat) : Int))), c < 0x110000 := fun n hn => by
    rw [TL.tl_num]
    exact ⟨TL.numL_len (by decide) (by omega), fun c hc => by have := TL.numL_digits n c hc; omega⟩
  by_cases hn : i < 0
  · have e : TL.tl (Str.ofString (toString i)) = 45 :: TL.tl (Str.ofString (toString ((i.natAbs : Nat) : Int))) := by
      rw [PyProof.Rows.toString_neg hn, TL.tl_ofString, TL.tl_ofString, show (0 : Int) - i = ((i.natAbs : Nat) : Int) by omega, String.toList_append, List.map_append]
      rfl
    have z := nat i.natAbs (by omega)
    refine ⟨?_, fun c hc => ?_⟩
    · show (Str.ofString (toString i)).length ≤ 1000
      rw [TL.len_tl, e, List.length_cons]; omega
    · have hc : c ∈ TL.tl (Str.ofString (toString i)) := hc
      rw [e] at hc
      rcases List.mem_cons.mp hc with rfl | hc
      · decide
      · exact z.2 c hc
  · have e : i = ((i.natAbs : Nat) : Int) := by omega
    have z := nat i.natAbs (by omega)
    rw [← e] at z
    refine ⟨?_, z.2⟩
    show (Str.ofString (toString i)).length ≤ 1000
    rw [TL.len_tl]; omega
theorem cutD_mem {xs : List D} {lo hi : Option Int} {x : D} (h : x ∈ cutD xs lo hi) : x ∈ xs := List.mem_of_mem_drop (List.mem_of_mem_take h)
theorem cutD_len (xs : List D) (lo hi : Option Int) : (cutD xs lo hi).length ≤ xs.length := by
  unfold cutD
  rw [List.length_take, List.length_drop]
  omega
theorem cutS_mem {x : Str} {lo hi : Option Int} {c : Nat} (h : c ∈ (cutS x lo hi).cps.toList) : c ∈ x.cps.toList := by
  unfold cutS at h
  have h : c ∈ (x.cps.toList.drop (HT.sIx x.length 0 lo)).take (HT.sIx x.length x.length hi - HT.sIx x.length 0 lo) := by simpa using h
  exact List.mem_of_mem_drop (List.mem_of_mem_take h)
theorem repS_mem {x : Str} {n c : Nat} (h : c ∈ (repS x n).cps.toList) : c ∈ x.cps.toList := by
  have key : ∀ (n : Nat) (a : Array Nat), c ∈ ((List.replicate n x.cps).foldl (· ++ ·) a).toList → c ∈ a.toList ∨ c ∈ x.cps.toList := by
    intro n
    induction n with
    | zero => intro a h; exact .inl h
    | succ n ih =>
      intro a h
      rw [List.replicate_succ, List.foldl_cons] at h
      rcases ih _ h with h | h
      · rw [Array.toList_append, List.mem_append] at h
        exact h
      · exact .inr h
  rcases key n #[] h with h | h
  · simp at h
  · exact h
theorem sc_flat {d : D} (h : Sc d) : Flat d := by
  rcases h with ⟨b, rfl⟩ | ⟨i, rfl, _⟩ | ⟨x, rfl, l, k⟩
  · exact .inr (.inl ⟨b, rfl⟩)
  · exact .inr (.inr (.inl ⟨i, rfl⟩))
  · exact .inr (.inr (.inr (.inl ⟨x, rfl, by omega, fun c hc => Nat.lt_trans (k c hc) (by decide)⟩)))
theorem vd_th {d : D} : ∀ {k : Nat}, Vd k d → Th k d
  | 0, h => sc_flat h
  | k + 1, h => by
    rcases h with h | ⟨xs, e, l, h⟩
    · exact .inl (sc_flat h)
    · exact .inr ⟨xs, e, by omega, fun x hx => vd_th (h x hx)⟩
theorem Th.up {d : D} : ∀ {k j : Nat}, Th k d → k ≤ j → Th j d
  | 0, _, h, _ => Th.fl h _
  | k + 1, 0, h, i => absurd i (by omega)
  | k + 1, j + 1, h, i => by
    rcases h with h | ⟨xs, e, l, h⟩
    · exact .inl h
    · exact .inr ⟨xs, e, l, fun x hx => Th.up (h x hx) (by omega)⟩
theorem fl_str {x : Str} (h : strK x) : Flat (.str x) := .inr (.inr (.inr (.inl ⟨x, rfl, h⟩)))
theorem fl_int {i : Int} : Flat (.int i) := .inr (.inr (.inl ⟨i, rfl⟩))
theorem fl_bl {i : Bool} : Flat (.bl i) := .inr (.inl ⟨i, rfl⟩)
theorem fl_lst {xs : List D} : Flat (.lst xs) := .inr (.inr (.inr (.inr (.inl ⟨xs, rfl⟩))))
theorem fl_dic {xs} : Flat (.dic xs) := .inr (.inr (.inr (.inr (.inr ⟨xs, rfl⟩))))
theorem strK_lit {x : Str} (h : (decide (x.length ≤ 80) && x.cps.toList.all fun c => decide (c < 128)) = true) : strK x := by
  have z := ok_const h
  exact ⟨by omega, fun c hc => Nat.lt_trans (z.2 c hc) (by decide)⟩
theorem join_two {s : Sto} {P : D → Prop} {base others : List D} (hb : ∀ x ∈ base, P x) (ho : ∀ x ∈ others, P x) (l1 : base.length ≤ 18) (l2 : others.length ≤ 8) (l3 : others ≠ []) :
    ∃ z, slD s (.lst base) none (some 6) = some z ∧ ∃ z2, opMul s (.lst others) (.int 2) = some z2 ∧ ∃ z3, opAdd s z z2 = some z3 ∧ ∃ ys, z3 = .lst ys ∧ ys ≠ [] ∧ ys.length ≤ 100 ∧ ∀ y ∈ ys, P y := by
  have sl : sizeLine = 16777216 := sizeLine_eq
  have c := cutD_len base none (some 6)
  have hm : opMul s (.lst others) (.int 2) = some (.lst (others ++ (others ++ []))) := by
    show (if (0 : Int) ≤ 2 ∧ (2 : Int) ≤ 1000 ∧ others.length ≤ 1000 then some (D.lst (List.replicate (2 : Int).toNat others).flatten) else none) = _
    rw [if_pos ⟨by decide, by decide, by omega⟩]
    rfl
  refine ⟨_, rfl, _, hm, _, add_lst (by simp; omega), _, rfl, ?_, by simp; omega, fun y hy => ?_⟩
  · simp [l3]
  · simp only [List.mem_append, List.not_mem_nil, or_false] at hy
    rcases hy with hy | hy | hy
    · exact hb y (cutD_mem hy)
    · exact ho y hy
    · exact ho y hy
def base0 : List D := [.non, .bl true, .bl false, .int 0, .int 1, .int (-1), .int 1000001, .str "", .str "a", .str "#", .str "?a", .str "A", .str "a b", .tup [], .lst [], .dic [], .tup [.int 0], .tup [.tup []]]
theorem base0_th {k : Nat} : ∀ x ∈ base0, Th (k + 1) x ∨ x = .tup [.tup []] := by
  intro x hx
  simp only [base0, List.mem_cons, List.not_mem_nil, or_false] at hx
  rcases hx with h | h | h | h | h | h | h | h | h | h | h | h | h | h | h | h | h | h <;> subst h
  · exact .inl (Th.fl (.inl rfl) _)
  · exact .inl (Th.fl fl_bl _)
  · exact .inl (Th.fl fl_bl _)
  · exact .inl (Th.fl fl_int _)
  · exact .inl (Th.fl fl_int _)
  · exact .inl (Th.fl fl_int _)
  · exact .inl (Th.fl fl_int _)
  · exact .inl (Th.fl (fl_str (strK_lit (by decide +kernel))) _)
  · exact .inl (Th.fl (fl_str (strK_lit (by decide +kernel))) _)
  · exact .inl (Th.fl (fl_str (strK_lit (by decide +kernel))) _)
  · exact .inl (Th.fl (fl_str (strK_lit (by decide +kernel))) _)
  · exact .inl (Th.fl (fl_str (strK_lit (by decide +kernel))) _)
  · exact .inl (Th.fl (fl_str (strK_lit (by decide +kernel))) _)
  · exact .inl (.inr ⟨[], rfl, by simp, by simp⟩)
  · exact .inl (Th.fl fl_lst _)
  · exact .inl (Th.fl fl_dic _)
  · exact .inl (.inr ⟨[.int 0], rfl, by simp, fun x hx => by rw [List.mem_singleton.mp hx]; exact Th.fl fl_int _⟩)
  · exact .inr rfl
theorem base0_ok {k : Nat} (x : D) (hx : x ∈ base0) : Th (k + 2) x := by
  rcases base0_th (k := k) x hx with h | rfl
  · exact h.up (by omega)
  · exact .inr ⟨_, rfl, by simp, fun x hx => by rw [List.mem_singleton.mp hx]; exact .inr ⟨[], rfl, by simp, by simp⟩⟩
theorem rep_tup {s : Sto} {xs : List D} (h : xs.length ≤ 16) : ∃ ys, opMul s (.tup xs) (.int 9) = some (.tup ys) ∧ ys.length ≤ 1000 ∧ ∀ y ∈ ys, y ∈ xs := by
  by_cases c : xs = []
  · subst c
    exact ⟨[], rfl, by simp, by simp⟩
  · refine ⟨(List.replicate 9 xs).flatten, ?_, ?_, ?_⟩
    · show (if xs = [] ∧ (0 : Int) ≤ 9 ∧ (9 : Int) ≤ 1000 then some (D.tup []) else if xs ≠ [] ∧ (2 : Int) ≤ 9 ∧ (9 : Int) ≤ 1000 ∧ xs.length ≤ 1000 then some (.tup (List.replicate (9 : Int).toNat xs).flatten) else none) = _
      rw [if_neg (fun z => c z.1), if_pos ⟨c, by decide, by decide, by omega⟩]
      rfl
    · simp; omega
    · intro y hy
      simp at hy
      exact hy
theorem near_tail {s s' : Sto} {n T k : Nat} {part w : D} {ys : List D} (h : PotAt s n T) (hT : T + 1 ≤ 2 ^ 40) (h0 : ys ≠ []) (h1 : ys.length ≤ 100) (h2 : ∀ y ∈ ys, Th k y) :
    Wp (F__law_pick [.ref n, .lst ys] s) (Dr s n (T + 1) (Th k)) := (pick_lst h (by omega) h0 (by omega)).mono fun d s1 q => q.mono Upd.refl (by omega) (h2 d)
theorem int_part {p : D} (h : (∃ b, p = .bl b) ∨ ∃ i, p = .int i ∧ -1000000 ≤ i ∧ i ≤ 1000000) (s : Sto) : ∃ i j x b l m, opAdd s p (.int 1) = some (.int i) ∧ unNeg s p = some (.int j) ∧ cbStr s [p] = some (.str x) ∧ strK x ∧ opEq s p (.int 1) = some (.bl b) ∧ cbInt s [p] = some (.int l) ∧ opSub s (.int 1000000) p = some (.int m) := by
  rcases h with ⟨b, rfl⟩ | ⟨i, rfl, h0, h1⟩
  · exact ⟨_, _, _, _, _, _, rfl, rfl, rfl, by cases b <;> exact strK_lit (by decide +kernel), rfl, rfl, rfl⟩
  · have hs := num_str h0 h1
    have sl : sizeLine = 16777216 := sizeLine_eq
    refine ⟨_, _, _, _, _, _, rfl, rfl, if_pos ⟨?_, by have := hs.1; omega⟩, hs, rfl, rfl, rfl⟩
    refine Nat.lt_of_le_of_lt (m := 20) ?_ (by decide)
    by_cases z : i.natAbs = 0
    · rw [z]; decide
    · exact Nat.le_of_lt_succ ((Nat.log2_lt z).mpr (by omega))
theorem near_ok {s : Sto} {n T k : Nat} {part : D} (h : PotAt s n T) (hT : T + 1 ≤ 2 ^ 40) (hp : Vd k part) : Wp (F__law_near [.ref n, part] s) (Dr s n (T + 1) (Th (k + 2))) := by
  have sl : sizeLine = 16777216 := sizeLine_eq
  rw [F__law_near, mFun_ap (n := 2) rfl, b__law_near]
  simp only [List.map_cons, List.map_nil, List.cons_append, List.nil_append, List.replicate_succ, List.replicate_zero]
  refine seqK (fun e s' => e = [some (.ref n), some part, some (.lst base0), none] ∧ s = s') ?_ ?_
  · walk_at "ev"
    refine ⟨_, rfl, _, pow6, _, rfl, by decide, by decide, by decide, by decide, by decide, by decide, ?_⟩
    first | exact ⟨by decide, rfl⟩ | exact ⟨by decide, rfl, rfl⟩ | rfl
  rintro _ _ ⟨rfl, rfl⟩
  have hb : ∀ x ∈ base0, Th (k + 2) x := base0_ok
  refine seqK (fun e s' => s = s' ∧ ∃ ys w, e = [some (.ref n), some part, some (.lst ys), w] ∧ ys ≠ [] ∧ ys.length ≤ 100 ∧ ∀ y ∈ ys, Th (k + 2) y) ?_ ?_
  · have cases3 : (∃ xs, part = .tup xs ∧ xs.length ≤ 16 ∧ ∀ x ∈ xs, Th k x) ∨ (∃ x, part = .str x ∧ Ok x) ∨ ((∃ b, part = .bl b) ∨ ∃ i, part = .int i ∧ -1000000 ≤ i ∧ i ≤ 1000000) := by
      have sc : Sc part → (∃ x, part = .str x ∧ Ok x) ∨ ((∃ b, part = .bl b) ∨ ∃ i, part = .int i ∧ -1000000 ≤ i ∧ i ≤ 1000000) := fun h => by
        rcases h with h | h | h
        · exact .inr (.inl h)
        · exact .inr (.inr h)
        · exact .inl h
      cases k with
      | zero => exact .inr (sc hp)
      | succ k =>
        rcases hp with hp | ⟨xs, e, l, hx⟩
        · exact .inr (sc hp)
        · exact .inl ⟨xs, e, l, fun x hx' => (vd_th (hx x hx')).up (by omega)⟩
    rcases cases3 with ⟨xs, rfl, l, hx⟩ | ⟨x, rfl, hx⟩ | hI
    · walk_at "ev"; walk_at "isi"
      obtain ⟨ms, em, lm, hm⟩ := rep_tup (s := s) l
      have c1 := cutD_len xs none (some (-1))
      have c2 := cutD_len xs (some (-1)) none
      have tp : ∀ {ys : List D}, ys.length ≤ 1000 → (∀ y ∈ ys, Th k y) → Th (k + 2) (.tup ys) := fun l h => .inr ⟨_, rfl, l, fun y hy => (h y hy).up (by omega)⟩
      have t1 : Th (k + 2) (.tup (cutD xs none (some (-1)))) := tp (by omega) fun y hy => hx y (cutD_mem hy)
      have t2 : Th (k + 2) (.tup (xs ++ cutD xs (some (-1)) none)) := tp (by rw [List.length_append]; omega) fun y hy => (List.mem_append.mp hy).elim (hx y) fun z => hx y (cutD_mem z)
      have t3 : Th (k + 2) (.tup xs.reverse) := tp (by rw [List.length_reverse]; omega) fun y hy => hx y (List.mem_reverse.mp hy)
      have t4 : Th (k + 2) (.tup [.tup xs]) := .inr ⟨_, rfl, by simp, fun y hy => by rw [List.mem_singleton.mp hy]; exact .inr ⟨xs, rfl, by omega, hx⟩⟩
      have t5 : Th (k + 2) (.tup ms) := tp lm fun y hy => hx y (hm y hy)
      have t6 : Th (k + 2) (.tup (xs ++ [.int 0])) := tp (by rw [List.length_append]; simp; omega) fun y hy => (List.mem_append.mp hy).elim (hx y) fun z => by rw [List.mem_singleton.mp z]; exact Th.fl fl_int _
      obtain ⟨z8, e8, z9, e9, z10, e10, ys, ey, y0, y1, y2⟩ := join_two (s := s) (P := Th (k + 2)) (others := [.lst xs, .tup (cutD xs none (some (-1))), .tup (xs ++ cutD xs (some (-1)) none), .tup xs.reverse, .tup [.tup xs], .tup ms, .tup (xs ++ [.int 0])]) hb (by
        intro y hy
        simp only [List.mem_cons, List.not_mem_nil, or_false] at hy
        rcases hy with h | h | h | h | h | h | h <;> subst h
        · exact Th.fl fl_lst _
        · exact t1
        · exact t2
        · exact t3
        · exact t4
        · exact t5
        · exact t6) (by decide) (by simp) (by simp)
      exact ⟨_, rfl, _, rfl, _, rfl, _, rfl, _, rfl, _, rfl, _, rfl, _, add_tup (by omega), by decide, _, em, by decide, _, add_tup (by simp; omega), by decide, _, e8, _, e9, _, e10, ys, _, ⟨ey, rfl⟩, y0, y1, y2⟩
    · walk_at "ev"; walk_at "isi"
      have hl := hx.1
      have hu := PyProof.Rows.len_upper x
      have c1 := cutS_le x none (some (-1))
      have sm : ∀ c ∈ x.cps.toList, c < 0x110000 := fun c hc => Nat.lt_trans (hx.2 c hc) (by decide)
      have ap : ∀ (a b : Str), strK a → strK b → a.length + b.length ≤ 1000 → Th (k + 2) (.str (a ++ b)) := fun a b ha hb hl => Th.fl (fl_str ⟨by rw [str_len_app]; exact hl, fun c hc => by
        have e : (a ++ b).cps.toList = a.cps.toList ++ b.cps.toList := TL.tl_append a b
        rw [e, List.mem_append] at hc
        exact hc.elim (ha.2 c) (hb.2 c)⟩) _
      have sx : strK x := ⟨by omega, sm⟩
      have l1 : strK "a" := strK_lit (by decide +kernel)
      have l2 : strK "#" := strK_lit (by decide +kernel)
      have l3 : strK "?" := strK_lit (by decide +kernel)
      have l4 : strK " " := strK_lit (by decide +kernel)
      have k1 : ("a" : Str).length = 1 := by decide
      have k2 : ("#" : Str).length = 1 := by decide
      have k3 : ("?" : Str).length = 1 := by decide
      have k4 : (" " : Str).length = 1 := by decide
      have t1 := ap x "a" sx l1 (by omega)
      have t2 : Th (k + 2) (.str (cutS x none (some (-1)))) := Th.fl (fl_str ⟨by omega, fun c hc => sm c (cutS_mem hc)⟩) _
      have t3 : Th (k + 2) (.str (Txt.upper x)) := Th.fl (fl_str ⟨by omega, fun c hc => by
        rw [PyProof.Rows.upper_ascii hx.2] at hc
        simp only [Array.toList_map, List.mem_map] at hc
        obtain ⟨b, hb, rfl⟩ := hc
        have := sm b hb
        unfold PyProof.Rows.up1
        split <;> omega⟩) _
      have t4 := ap "#" x l2 sx (by omega)
      have t5 := ap "?" x l3 sx (by omega)
      have t6 : Th (k + 2) (.str (repS x 9)) := Th.fl (fl_str ⟨by rw [repS_len]; omega, fun c hc => sm c (repS_mem hc)⟩) _
      have t7 := ap x " " sx l4 (by omega)
      have t8 : Th (k + 2) (.tup [.str x]) := .inr ⟨_, rfl, by simp, fun y hy => by rw [List.mem_singleton.mp hy]; exact Th.fl (fl_str sx) _⟩
      obtain ⟨z8, e8, z9, e9, z10, e10, ys, ey, y0, y1, y2⟩ := join_two (s := s) (P := Th (k + 2)) (others := [.str (x ++ "a"), .str (cutS x none (some (-1))), .str (Txt.upper x), .str ("#" ++ x), .str ("?" ++ x), .str (repS x 9), .str (x ++ " "), .tup [.str x]]) hb (by
        intro y hy
        simp only [List.mem_cons, List.not_mem_nil, or_false] at hy
        rcases hy with h | h | h | h | h | h | h | h <;> subst h
        · exact t1
        · exact t2
        · exact t3
        · exact t4
        · exact t5
        · exact t6
        · exact t7
        · exact t8) (by decide) (by simp) (by simp)
      exact ⟨_, add_str (by omega), _, rfl, _, rfl, _, rfl, _, if_pos ⟨by omega, by omega⟩, _, add_str (by omega), _, add_str (by omega), _, if_pos ⟨by decide, by decide, by omega⟩, _, add_str (by omega), by decide, by decide, _, e8, _, e9, _, e10, ys, _, ⟨ey, rfl⟩, y0, y1, y2⟩
    · obtain ⟨i, j, x, b, l, m, e1, e2, e3, sx, e4, e5, e6⟩ := int_part hI s
      obtain ⟨z8, e8, z9, e9, z10, e10, ys, ey, y0, y1, y2⟩ := join_two (s := s) (P := Th (k + 2)) (others := [.int i, .int j, .str x, .bl b, .int l, .int m, .tup [part]]) hb (by
        intro y hy
        simp only [List.mem_cons, List.not_mem_nil, or_false] at hy
        rcases hy with h | h | h | h | h | h | h <;> subst h
        · exact Th.fl fl_int _
        · exact Th.fl fl_int _
        · exact Th.fl (fl_str sx) _
        · exact Th.fl fl_bl _
        · exact Th.fl fl_int _
        · exact Th.fl fl_int _
        · exact .inr ⟨_, rfl, by simp, fun y hy => by rw [List.mem_singleton.mp hy]; exact (vd_th hp).up (by omega)⟩) (by decide) (by simp) (by simp)
      have fin : ∃ z, opAdd s part (.int 1) = some z ∧ ∃ z2, unNeg s part = some z2 ∧ ∃ z3, cbStr s [part] = some z3 ∧ ∃ z4, opEq s part (.int 1) = some z4 ∧ ∃ z5, cbInt s [part] = some z5 ∧ ∃ z6, opPow s (.int 10) (.int 6) = some z6 ∧ ∃ z7, opSub s z6 part = some z7 ∧ 0 + 1 ≤ sizeLine ∧ 0 + 1 + 1 + 1 + 1 + 1 + 1 + 1 ≤ sizeLine ∧
          ∃ z8, slD s (.lst base0) none (some 6) = some z8 ∧ ∃ z9, opMul s (.lst [z, z2, z3, z4, z5, z7, .tup [part]]) (.int 2) = some z9 ∧ ∃ z10, opAdd s z8 z9 = some z10 ∧ ∃ ys w, (z10 = .lst ys ∧ some (D.lst [z, z2, z3, z4, z5, z7, .tup [part]]) = w) ∧ ys ≠ [] ∧ ys.length ≤ 100 ∧ ∀ y ∈ ys, Th (k + 2) y :=
        ⟨_, e1, _, e2, _, e3, _, e4, _, e5, _, pow6, _, e6, by decide, by decide, _, e8, _, e9, _, e10, ys, _, ⟨ey, rfl⟩, y0, y1, y2⟩
      rcases hI with ⟨b, rfl⟩ | ⟨i, rfl, h0, h1⟩
      · walk_at "ev"; walk_at "isi"
        exact fin
      · walk_at "ev"; walk_at "isi"
        exact fin
  rintro _ _ ⟨rfl, ys, w, rfl, h0, h1, h2⟩
  walk_at "ev"
  exact near_tail (w := .non) (part := .non) (s' := s) h hT h0 h1 h2
end K02
end
section
set_option maxRecDepth 100000
set_option maxHeartbeats 1000000
namespace K02
open PySem L2 Mi
local macro_rules | `(tactic| walk_at "ev") => `(tactic| simp only [Wp_ok, Wp_bind, Wp_quiet, WpS_fl, WpS_then, Nx_nx, Nx_rt, Nx_bk, Nx_ct, mVar_ap, mC_ap, mOp_ap, mUn_ap, mB_ap, mTru_ap, mAnd_ap, mOr_ap, mNot_ap,
  bAnd_ap, bOr_ap, bNot_ap, bYes_ap, mIf_ap, mNil_ap, mCons_ap, mTup_ap, mLst_ap, mLstR_ap, mDic0_ap, mCall_ap, mCb_ap, mMb_ap, mStr_ap, mRevT_ap, mPart_ap, mNoPart_ap, mSl_ap, mChain_ap, itL_ap, itT_ap, itS_ap, itR1_ap,
  sNil_ap, sSeq_ap, sIf_ap, sRet_ap, sRetN_ap, sBrk_ap, sCnt_ap, sExp_ap, sAsg_ap, sPar_ap, sPar3_ap, tgN_ap, tgNil_ap, tgCons_ap, sSetIx_ap, sFor_ap, Wp_mLc,
  List.map_cons, List.map_nil, List.cons_append, List.nil_append, List.replicate_succ, List.replicate_zero, List.getElem?_cons_zero, List.getElem?_cons_succ, List.set_cons_zero, List.set_cons_succ, List.length_cons, List.length_nil,
  Option.some.injEq, Option.bind_some, exists_eq_left, exists_eq_left', true_and, and_true, D.bl.injEq, D.int.injEq, D.str.injEq, D.ref.injEq, D.tup.injEq, D.lst.injEq, List.cons.injEq, if_true, if_false, Bool.false_eq_true, reduceCtorEq, false_and, and_false, or_false, false_or, exists_false])
local macro_rules | `(tactic| walk_at "isi") => `(tactic| simp only [isi_NoneType_bool, isi_NoneType_int, isi_NoneType_str, isi_NoneType_tuple, isi_NoneType_list, isi_NoneType_dict, isi_bool_bool, isi_bool_int, isi_bool_str, isi_bool_tuple, isi_bool_list, isi_bool_dict,
  isi_int_bool, isi_int_int, isi_int_str, isi_int_tuple, isi_int_list, isi_int_dict, isi_str_bool, isi_str_int, isi_str_str, isi_str_tuple, isi_str_list, isi_str_dict, isi_tuple_bool, isi_tuple_int, isi_tuple_str, isi_tuple_tuple, isi_tuple_list, isi_tuple_dict,
  isi_list_bool, isi_list_int, isi_list_str, isi_list_tuple, isi_list_list, isi_list_dict, isi_dict_bool, isi_dict_int, isi_dict_str, isi_dict_tuple, isi_dict_list, isi_dict_dict, tru_bl, tru_non, Option.some.injEq, exists_eq_left', exists_eq_left, if_true, if_false, Bool.false_eq_true, Bool.not_true, Bool.not_false, true_and, false_and, or_false, false_or, reduceCtorEq, D.bl.injEq])

theorem vd_py : ∀ {k : Nat} {d : D}, Vd k d → ∃ x, pyD d = some x ∧ PyData.canLay0 x = true ∧ PyData.depth x ≤ k := by
  have sc : ∀ {d : D}, Sc d → ∃ x, pyD d = some x ∧ PyData.canLay0 x = true ∧ PyData.depth x = 0 := fun h => by
    rcases h with ⟨b, rfl⟩ | ⟨i, rfl, _⟩ | ⟨x, rfl, l, k⟩
    · exact ⟨_, rfl, rfl, by simp [PyData.depth]⟩
    · exact ⟨_, rfl, rfl, by simp [PyData.depth]⟩
    · exact ⟨_, rfl, by simp only [PyData.canLay0]; exact strOk_of fun c hc => Nat.lt_trans (k c hc) (by decide), by simp [PyData.depth]⟩
  intro k
  induction k with
  | zero =>
    intro d h
    obtain ⟨x, e, c, p⟩ := sc h
    exact ⟨x, e, c, by omega⟩
  | succ k ih =>
    intro d h
    rcases h with h | ⟨xs, rfl, l, h⟩
    · obtain ⟨x, e, c, p⟩ := sc h
      exact ⟨x, e, c, by omega⟩
    · have all : ∀ xs : List D, (∀ x ∈ xs, Vd k x) → ∃ ds, pyDs xs = some ds ∧ PyData.canLayAll0 ds = true ∧ PyData.depthAll ds ≤ k := by
        intro xs
        induction xs with
        | nil => intro _; exact ⟨[], rfl, rfl, by simp [PyData.depthAll]⟩
        | cons x r ihr =>
          intro h
          obtain ⟨ds, e, c, p⟩ := ihr fun y hy => h y (List.mem_cons_of_mem _ hy)
          obtain ⟨z, e2, c2, p2⟩ := ih (h x List.mem_cons_self)
          exact ⟨z :: ds, by simp [pyDs, e, e2], by simp [PyData.canLayAll0, c, c2], by simp only [PyData.depthAll]; omega⟩
      obtain ⟨ds, e, c, p⟩ := all xs h
      exact ⟨.tuple ds, by simp [pyD, e], by simp only [PyData.canLay0]; exact c, by simp only [PyData.depth]; omega⟩
theorem vd_asL {k : Nat} {d : D} {s : Sto} (h : Vd k d) : asL s d = none := by
  have sc : Sc d → asL s d = none := fun h => by
    rcases h with ⟨b, rfl⟩ | ⟨i, rfl, _⟩ | ⟨x, rfl, l, k⟩ <;> rfl
  cases k with
  | zero => exact sc h
  | succ k =>
    rcases h with h | ⟨xs, rfl, _⟩
    · exact sc h
    · rfl
def eqD (d e : D) : Bool := match pyD d, pyD e with
  | some x, some y => PyData.eqv x y
  | _, _ => false
theorem eqD_comm (d e : D) : eqD d e = eqD e d := by
  unfold eqD
  cases pyD d <;> cases pyD e <;> first | rfl | exact PySem.W.eqv_comm _ _
theorem eq_vd {s : Sto} {k : Nat} {d e : D} (hd : Vd k d) (he : Vd k e) (hk : k ≤ 64) : opEq s d e = some (.bl (eqD d e)) := by
  obtain ⟨x, ex, cx, px⟩ := vd_py hd
  obtain ⟨y, ey, cy, py⟩ := vd_py he
  have s1 : SeqAt.shaped x = true := by
    unfold SeqAt.shaped
    rw [Bool.and_eq_true]
    exact ⟨cx, decide_eq_true (by omega)⟩
  have s2 : SeqAt.shaped y = true := by
    unfold SeqAt.shaped
    rw [Bool.and_eq_true]
    exact ⟨cy, decide_eq_true (by omega)⟩
  simp only [opEq, pyA, vd_asL hd, vd_asL he, ex, ey, s1, s2, and_self, if_true, eqD]
def bentC (k : Nat) : Nat := 3 * (k + 1)
theorem bent_ok {n : Nat} : ∀ (k m j : Nat) {s : Sto} {T : Nat} {d : D}, k ≤ m → j ≤ 64 → PotAt s n T → T + bentC k ≤ 2 ^ 40 → Vd j d → Wp (F__law_bent (m + 1) [.ref n, d, .int (k : Int)] s) (Dr s n (T + bentC k) (Th (j + 2)))
  | k, m, j, s, T, d, hm, hj, h, hT, hd => by
    have sl : sizeLine = 16777216 := sizeLine_eq
    have hb : bentC k = 3 * (k + 1) := rfl
    have nearK : ∀ {s' : Sto} {T' : Nat}, Upd n s s' → PotAt s' n T' → T' + 1 ≤ T + bentC k → Wp (F__law_near [.ref n, d] s') (Dr s n (T + bentC k) (Th (j + 2))) := fun u p hl =>
      (near_ok p (by omega) hd).mono fun v s1 q => q.mono u hl fun z => z
    rw [F__law_bent, mFun_ap (n := 3) rfl, b__law_bent]
    simp only [List.map_cons, List.map_nil, List.cons_append, List.nil_append, List.replicate_succ, List.replicate_zero]
    refine seqK (fun e s' => e = [some (.ref n), some d, some (.int (k : Int)), none] ∧ PotAt s' n (T + 1) ∧ Upd n s s' ∧ ∃ xs, d = .tup xs ∧ xs ≠ [] ∧ ∃ k', k = k' + 1) ?_ ?_
    · walk_at "ev"
      refine ⟨_, rfl, _, rfl, ?_⟩
      by_cases k0 : k = 0
      · subst k0
        rw [if_pos (by rfl)]
        exact nearK Upd.refl h (by omega)
      have ne : PyData.eqv (.int ((k : Nat) : Int)) (.int 0) = false := by
        show ((k : Int) == 0) = false
        exact beq_eq_false_iff_ne.mpr (by omega)
      rw [ne, if_neg (by decide)]
      have isT : (∃ xs, d = .tup xs) ∨ isiD "tuple" s d = some (.bl false) := by
        have sc : Sc d → isiD "tuple" s d = some (.bl false) := fun h => by
          rcases h with ⟨b, rfl⟩ | ⟨i, rfl, _⟩ | ⟨x, rfl, l, k⟩ <;> simp
        cases j with
        | zero => exact .inr (sc hd)
        | succ j =>
          rcases hd with hd | ⟨xs, rfl, _⟩
          · exact .inr (sc hd)
          · exact .inl ⟨xs, rfl⟩
      rcases isT with ⟨xs, rfl⟩ | isT
      · walk_at "isi"
        have em : Vd j (.tup []) := by
          cases j with
          | zero => obtain ⟨_, h⟩ | ⟨_, h, _⟩ | ⟨_, h, _⟩ := hd <;> cases h
          | succ j => exact .inr ⟨[], rfl, by simp, by simp⟩
        refine ⟨by decide, _, eq_vd hd em hj, _, rfl, ?_⟩
        cases hq : eqD (.tup xs) (.tup []) with
        | true => rw [if_pos rfl]; exact nearK Upd.refl h (by omega)
        | false =>
          rw [if_neg (by decide)]
          have x0 : xs ≠ [] := fun z => by subst z; exact absurd hq (by decide)
          refine (take_ok h (by omega) (by omega) (by omega)).mono fun d1 s1 ⟨⟨r1, e1, r10, r11⟩, p1, u1⟩ => ?_
          subst e1
          refine ⟨_, rfl, _, rfl, ?_⟩
          split
          · exact nearK u1 p1 (by omega)
          · exact ⟨p1, u1, xs, rfl, x0, k - 1, by omega⟩
      · exact ⟨_, isT, _, rfl, by rw [if_pos (by rfl)]; exact nearK Upd.refl h (by omega)⟩
    rintro _ s1 ⟨rfl, p1, u1, xs, rfl, x0, k', rfl⟩
    obtain ⟨m, rfl⟩ : ∃ q, m = q + 1 := ⟨m - 1, by omega⟩
    have vs : ∃ j', j = j' + 1 ∧ xs.length ≤ 16 ∧ ∀ x ∈ xs, Vd j' x := by
      cases j with
      | zero => obtain ⟨_, h⟩ | ⟨_, h, _⟩ | ⟨_, h, _⟩ := hd <;> cases h
      | succ j =>
        rcases hd with (⟨_, h⟩ | ⟨_, h, _⟩ | ⟨_, h, _⟩) | ⟨ys, e, l, h⟩
        · cases h
        · cases h
        · cases h
        · cases e; exact ⟨j, rfl, l, h⟩
    obtain ⟨j', rfl, l16, hx⟩ := vs
    have l0 : 0 < xs.length := List.length_pos_iff.mpr x0
    walk_at "ev"
    refine ⟨_, rfl, (take_ok p1 (by omega) (by show (0 : Int) < (xs.length : Int); omega) (by show (xs.length : Int) < 1073741824; omega)).mono fun d2 s2 ⟨⟨r, e, h0, h1⟩, p2, u2⟩ => ?_⟩
    subst e
    obtain ⟨x, ex, hm2⟩ := at_lt h0 h1
    refine ⟨r, rfl, _, rfl, x, ex, _, rfl, ?_⟩
    have e1 : ((k' + 1 : Nat) : Int) - 1 = (k' : Int) := by omega
    rw [e1]
    have hb2 : bentC k' = 3 * (k' + 1) := rfl
    refine (bent_ok k' m j' (by omega) (by omega) p2 (by omega) (hx x hm2)).mono fun v s3 ⟨hv, p3, u3⟩ => ?_
    have c1 := cutD_len xs none (some r)
    have c2 := cutD_len xs (some (r + 1)) none
    refine ⟨by decide, _, add_tup (by simp; omega), _, rfl, _, rfl, _, rfl, _, add_tup (by simp; omega), ?_, p3.mono (by omega), (u1.trans u2).trans u3⟩
    refine .inr ⟨_, rfl, by simp; omega, fun y hy => ?_⟩
    simp only [List.mem_append, List.mem_cons, List.not_mem_nil, or_false] at hy
    rcases hy with (hy | rfl) | hy
    · exact (vd_th (hx y (cutD_mem hy))).up (by omega)
    · exact hv.up (by omega)
    · exact (vd_th (hx y (cutD_mem hy))).up (by omega)
end K02
end
section
set_option maxRecDepth 100000
set_option maxHeartbeats 1000000
namespace K02
open PySem L2 Mi
local macro_rules | `(tactic| walk_at "ev") => `(tactic| simp only [Wp_ok, Wp_bind, Wp_quiet, WpS_fl, WpS_then, Nx_nx, Nx_rt, Nx_bk, Nx_ct, mVar_ap, mC_ap, mOp_ap, mUn_ap, mB_ap, mTru_ap, mAnd_ap, mOr_ap, mNot_ap,
  bAnd_ap, bOr_ap, bNot_ap, bYes_ap, mIf_ap, mNil_ap, mCons_ap, mTup_ap, mLst_ap, mLstR_ap, mDic0_ap, mCall_ap, mCb_ap, mMb_ap, mStr_ap, mRevT_ap, mPart_ap, mNoPart_ap, mSl_ap, mChain_ap, itL_ap, itT_ap, itS_ap, itR1_ap,
  sNil_ap, sSeq_ap, sIf_ap, sRet_ap, sRetN_ap, sBrk_ap, sCnt_ap, sExp_ap, sAsg_ap, sPar_ap, sPar3_ap, tgN_ap, tgNil_ap, tgCons_ap, sSetIx_ap, sFor_ap, Wp_mLc,
  List.map_cons, List.map_nil, List.cons_append, List.nil_append, List.replicate_succ, List.replicate_zero, List.getElem?_cons_zero, List.getElem?_cons_succ, List.set_cons_zero, List.set_cons_succ, List.length_cons, List.length_nil,
  Option.some.injEq, Option.bind_some, exists_eq_left, exists_eq_left', true_and, and_true, D.bl.injEq, D.int.injEq, D.str.injEq, D.ref.injEq, D.tup.injEq, D.lst.injEq, List.cons.injEq, if_true, if_false, Bool.false_eq_true, reduceCtorEq, false_and, and_false, or_false, false_or, exists_false])
local macro_rules | `(tactic| walk_at "isi") => `(tactic| simp only [isi_NoneType_bool, isi_NoneType_int, isi_NoneType_str, isi_NoneType_tuple, isi_NoneType_list, isi_NoneType_dict, isi_bool_bool, isi_bool_int, isi_bool_str, isi_bool_tuple, isi_bool_list, isi_bool_dict,
  isi_int_bool, isi_int_int, isi_int_str, isi_int_tuple, isi_int_list, isi_int_dict, isi_str_bool, isi_str_int, isi_str_str, isi_str_tuple, isi_str_list, isi_str_dict, isi_tuple_bool, isi_tuple_int, isi_tuple_str, isi_tuple_tuple, isi_tuple_list, isi_tuple_dict,
  isi_list_bool, isi_list_int, isi_list_str, isi_list_tuple, isi_list_list, isi_list_dict, isi_dict_bool, isi_dict_int, isi_dict_str, isi_dict_tuple, isi_dict_list, isi_dict_dict, tru_bl, tru_non, Option.some.injEq, exists_eq_left', exists_eq_left, if_true, if_false, Bool.false_eq_true, Bool.not_true, Bool.not_false, true_and, false_and, or_false, false_or, reduceCtorEq, D.bl.injEq])

def isB : D → Bool
  | .bl _ => true
  | _ => false
def isT : D → Bool
  | .tup _ => true
  | _ => false
def al : Nat → D → D → Bool
  | 0, _, _ => false
  | n + 1, .tup xs, .tup ys => ((xs.length : Int) == (ys.length : Int)) && (List.zipWith (al n) xs ys).all id
  | _ + 1, d, e => (isB d == isB e) && eqD d e
theorem al_comm : ∀ (n : Nat) (d e : D), al n d e = al n e d
  | 0, _, _ => rfl
  | n + 1, d, e => by
    have other : (isB d == isB e && eqD d e) = (isB e == isB d && eqD e d) := by rw [eqD_comm d e, PySem.W.beq_swap (isB d) (isB e)]
    cases d with
    | tup xs =>
      cases e with
      | tup ys =>
        simp only [al]
        rw [PySem.W.beq_swap (xs.length : Int) (ys.length : Int), List.zipWith_comm]
        have : (fun b a => al n a b) = al n := by funext b a; exact al_comm n a b
        rw [this]
      | _ => exact other
    | _ => cases e <;> exact other
theorem isi_T {k : Nat} {d : D} {s : Sto} (h : Vd k d) : isiD "tuple" s d = some (.bl (isT d)) := by
  have sc : Sc d → isiD "tuple" s d = some (.bl (isT d)) := fun h => by
    rcases h with ⟨b, rfl⟩ | ⟨i, rfl, _⟩ | ⟨x, rfl, l, k⟩ <;> simp [isT]
  cases k with
  | zero => exact sc h
  | succ k =>
    rcases h with h | ⟨xs, rfl, _⟩
    · exact sc h
    · simp [isT]
theorem isi_B {k : Nat} {d : D} {s : Sto} (h : Vd k d) : isiD "bool" s d = some (.bl (isB d)) := by
  have sc : Sc d → isiD "bool" s d = some (.bl (isB d)) := fun h => by
    rcases h with ⟨b, rfl⟩ | ⟨i, rfl, _⟩ | ⟨x, rfl, l, k⟩ <;> simp [isB]
  cases k with
  | zero => exact sc h
  | succ k =>
    rcases h with h | ⟨xs, rfl, _⟩
    · exact sc h
    · simp [isB]
theorem al_other {n : Nat} {d e : D} (h : isT d = false ∨ isT e = false) : al (n + 1) d e = ((isB d == isB e) && eqD d e) := by
  cases d with
  | tup xs =>
    cases e with
    | tup ys => rcases h with h | h <;> cases h
    | _ => rfl
  | _ => cases e <;> rfl
theorem Vd.tup_inv {k : Nat} {xs : List D} (h : Vd k (.tup xs)) : ∃ j, k = j + 1 ∧ xs.length ≤ 16 ∧ ∀ x ∈ xs, Vd j x := by
  cases k with
  | zero => obtain ⟨_, h⟩ | ⟨_, h, _⟩ | ⟨_, h, _⟩ := h <;> cases h
  | succ k =>
    rcases h with (⟨_, h⟩ | ⟨_, h, _⟩ | ⟨_, h, _⟩) | ⟨ys, e, l, h⟩
    · cases h
    · cases h
    · cases h
    · cases e; exact ⟨k, rfl, l, h⟩
theorem eq_bl {s : Sto} {a b : Bool} : opEq s (.bl a) (.bl b) = some (.bl (a == b)) := rfl
theorem ne_bl {s : Sto} {a b : Bool} : opNe s (.bl a) (.bl b) = some (.bl (!(a == b))) := rfl
theorem eq_int {s : Sto} {a b : Int} : opEq s (.int a) (.int b) = some (.bl (a == b)) := rfl
theorem zip_ok {xs ys : List D} {s : Sto} {rec : FT} {f : D → D → Bool} (hl : xs.length ≤ 16) (h : ∀ x ∈ xs, ∀ y ∈ ys, Wp (rec [x, y] s) fun v s' => s' = s ∧ v = .bl (f x y)) {Q : D → Sto → Prop} (q : Q (.bl ((List.zipWith f xs ys).all id)) s) :
    Wp (mCb cbAll (mCons (mLc (itZ (mCons (mVar 0) (mCons (mVar 1) mNil))) (tgT 2 (tgCons (tgN 2) (tgCons (tgN 3) tgNil))) bYes (mCall rec (mCons (mVar 2) (mCons (mVar 3) mNil))) [2, 3]) mNil) [some (.tup xs), some (.tup ys), none, none] s) Q := by
  walk_at "ev"
  show Wp (R.ok (zipD xs ys, fun _ => True) s) _
  walk_at "ev"
  have key : ∀ (as bs : List D) (acc : List D), acc.length + as.length ≤ 1000 → (∀ x ∈ as, ∀ y ∈ bs, Wp (rec [x, y] s) fun v s' => s' = s ∧ v = .bl (f x y)) →
      Wp (lcGo (fun _ => True) (tgT 2 (tgCons (tgN 2) (tgCons (tgN 3) tgNil))) bYes (mCall rec (mCons (mVar 2) (mCons (mVar 3) mNil))) (wipeE [some (D.tup xs), some (D.tup ys), none, none] [2, 3]) (zipD as bs) acc s)
        fun out s' => s' = s ∧ out = acc ++ (List.zipWith f as bs).map .bl := by
    intro as
    induction as with
    | nil =>
      intro bs acc _ _
      show Wp (lcGo _ _ _ _ _ [] acc s) _
      rw [lcGo, if_pos True.intro]
      exact ⟨rfl, by simp⟩
    | cons x r ih =>
      intro bs acc hl h
      cases bs with
      | nil =>
        show Wp (lcGo _ _ _ _ _ [] acc s) _
        rw [lcGo, if_pos True.intro]
        exact ⟨rfl, by simp⟩
      | cons y bs =>
        show Wp (lcGo _ _ _ _ _ (.tup [x, y] :: zipD r bs) acc s) _
        rw [lcGo, if_pos True.intro]
        rw [List.length_cons] at hl
        have eg : tgT 2 (tgCons (tgN 2) (tgCons (tgN 3) tgNil)) (.tup [x, y]) (wipeE [some (D.tup xs), some (D.tup ys), none, none] [2, 3]) = some [some (D.tup xs), some (D.tup ys), some x, some y] := rfl
        rw [eg]
        walk_at "ev"
        refine (h x List.mem_cons_self y List.mem_cons_self).mono fun v s1 ⟨e1, e2⟩ => ?_
        subst e1; subst e2
        rw [if_pos (Nat.lt_of_lt_of_le (show acc.length < 1000001 by omega) (by decide))]
        refine Wp.mono (ih bs (acc ++ [.bl (f x y)]) (by simp; omega) fun x hx y hy => h x (List.mem_cons_of_mem _ hx) y (List.mem_cons_of_mem _ hy)) ?_
        intro out s2 hq
        obtain ⟨e3, e4⟩ := hq
        refine ⟨e3, ?_⟩
        rw [e4]; simp
  refine (key xs ys [] (by simp; omega) h).mono ?_
  intro out s1 hq
  obtain ⟨e1, e2⟩ := hq
  subst e1
  exact ⟨_, all_bls e2, q⟩
theorem isT_tup {d : D} (h : isT d = true) : ∃ xs, d = .tup xs := by
  cases d with
  | tup xs => exact ⟨xs, rfl⟩
  | _ => cases h
theorem alike_ok {s : Sto} : ∀ (n : Nat) {d e : D}, n ≤ 64 → Vd n d → Vd n e → Wp (F_alike (n + 1) [d, e] s) fun v s' => s' = s ∧ v = .bl (al (n + 1) d e)
  | n, d, e, hn, hd, he => by
    rw [F_alike, mFun_ap (n := 2) rfl, b_alike]
    simp only [List.map_cons, List.map_nil, List.cons_append, List.nil_append, List.replicate_succ, List.replicate_zero]
    refine seqK (fun e' s' => e' = [some d, some e, none, none] ∧ s = s' ∧ (isT d = false ∨ isT e = false)) ?_ ?_
    · generalize hz : (mCb cbAll (mCons (mLc (itZ (mCons (mVar 0) (mCons (mVar 1) mNil))) (tgT 2 (tgCons (tgN 2) (tgCons (tgN 3) tgNil))) bYes (mCall (F_alike n) (mCons (mVar 2) (mCons (mVar 3) mNil))) [2, 3]) mNil)) = Z
      walk_at "ev"
      refine ⟨_, isi_T hd, _, rfl, ?_⟩
      cases td : isT d with
      | false => rw [if_neg (by decide)]; exact .inl rfl
      | true =>
        rw [if_pos rfl]
        refine ⟨_, isi_T he, _, rfl, ?_⟩
        cases te : isT e with
        | false => rw [if_neg (by decide)]; exact .inr rfl
        | true =>
          rw [if_pos rfl]
          obtain ⟨xs, rfl⟩ := isT_tup td
          obtain ⟨ys, rfl⟩ := isT_tup te
          obtain ⟨j, rfl, l1, hx⟩ := hd.tup_inv
          obtain ⟨j', e', l2, hy⟩ := he.tup_inv
          have : j = j' := by omega
          subst this
          refine ⟨_, rfl, _, rfl, _, eq_int, ?_⟩
          cases hl : ((xs.length : Int) == (ys.length : Int)) with
          | false => exact .inr ⟨rfl, by simp [al, hl]⟩
          | true =>
            refine .inl ⟨rfl, ?_⟩
            subst hz
            exact zip_ok (f := al (j + 1)) l1 (fun x hx' y hy' => alike_ok j (by omega) (hx x hx') (hy y hy')) (by simp [al, hl])
    rintro _ _ ⟨rfl, rfl, ht⟩
    rw [al_other ht]
    walk_at "ev"
    refine ⟨_, isi_B hd, _, isi_B he, _, ne_bl, _, rfl, ?_⟩
    cases hb : (isB d == isB e) with
    | false => rw [if_pos (by decide)]; simp
    | true =>
      rw [if_neg (by decide)]
      exact ⟨_, eq_vd hd he hn, by simp⟩
theorem lalike_ok {s : Sto} : ∀ (n : Nat) {d e : D}, n ≤ 64 → Vd n d → Vd n e → Wp (F__law_alike (n + 1) [d, e] s) fun v s' => s' = s ∧ v = .bl (al (n + 1) d e)
  | n, d, e, hn, hd, he => by
    rw [F__law_alike, mFun_ap (n := 2) rfl, b__law_alike]
    simp only [List.map_cons, List.map_nil, List.cons_append, List.nil_append, List.replicate_succ, List.replicate_zero]
    refine seqK (fun e' s' => e' = [some d, some e, none, none] ∧ s = s' ∧ (isT d = false ∨ isT e = false)) ?_ ?_
    · generalize hz : (mCb cbAll (mCons (mLc (itZ (mCons (mVar 0) (mCons (mVar 1) mNil))) (tgT 2 (tgCons (tgN 2) (tgCons (tgN 3) tgNil))) bYes (mCall (F__law_alike n) (mCons (mVar 2) (mCons (mVar 3) mNil))) [2, 3]) mNil)) = Z
      walk_at "ev"
      refine ⟨_, isi_T hd, _, rfl, ?_⟩
      cases td : isT d with
      | false => rw [if_neg (by decide)]; exact .inl rfl
      | true =>
        rw [if_pos rfl]
        refine ⟨_, isi_T he, _, rfl, ?_⟩
        cases te : isT e with
        | false => rw [if_neg (by decide)]; exact .inr rfl
        | true =>
          rw [if_pos rfl]
          obtain ⟨xs, rfl⟩ := isT_tup td
          obtain ⟨ys, rfl⟩ := isT_tup te
          obtain ⟨j, rfl, l1, hx⟩ := hd.tup_inv
          obtain ⟨j', e', l2, hy⟩ := he.tup_inv
          have : j = j' := by omega
          subst this
          refine ⟨_, rfl, _, rfl, _, eq_int, ?_⟩
          cases hl : ((xs.length : Int) == (ys.length : Int)) with
          | false => exact .inr ⟨rfl, by simp [al, hl]⟩
          | true =>
            refine .inl ⟨rfl, ?_⟩
            subst hz
            exact zip_ok (f := al (j + 1)) l1 (fun x hx' y hy' => lalike_ok j (by omega) (hx x hx') (hy y hy')) (by simp [al, hl])
    rintro _ _ ⟨rfl, rfl, ht⟩
    rw [al_other ht]
    walk_at "ev"
    refine ⟨_, isi_B hd, _, isi_B he, _, eq_bl, ?_⟩
    cases hb : (isB d == isB e) with
    | false => exact .inr ⟨rfl, by simp⟩
    | true => exact .inl ⟨rfl, _, eq_vd hd he hn, by simp⟩
theorem bs_eq {s : Sto} (b : Bool) : opEq s (.str (boolStr b)) (.str (boolStr b)) = some (.bl true) := by
  rw [eq_str (by cases b <;> exact lit_ok (by decide +kernel)) (by cases b <;> exact lit_ok (by decide +kernel))]
  simp
theorem asked_ok {s : Sto} {n : Nat} {d e : D} (hn : n ≤ 7) (hd : Vd n d) (he : Vd n e) : Wp (F__law_asked [d, e] s) fun v s' => s' = s ∧ v = .bl true := by
  have hd : Vd 7 d := hd.up hn
  have he : Vd 7 e := he.up hn
  rw [F__law_asked, mFun_ap (n := 2) rfl, b__law_asked]
  walk_at "ev"
  refine (lalike_ok 7 (by decide) hd he).mono fun v s1 ⟨e1, e2⟩ => ?_
  subst e1; subst e2
  refine (alike_ok 7 (by decide) hd he).mono fun v s1 ⟨e1, e2⟩ => ?_
  subst e1; subst e2
  refine ⟨_, rfl, _, rfl, _, bs_eq _, .inl ⟨rfl, ?_⟩⟩
  refine (alike_ok 7 (by decide) he hd).mono fun v s1 ⟨e1, e2⟩ => ?_
  subst e1; subst e2
  rw [al_comm 8 e d]
  exact ⟨_, rfl, _, rfl, _, bs_eq _, rfl, rfl⟩
theorem all_true {ds : List D} (h : ∀ d ∈ ds, d = .bl true) {s : Sto} : cbAll s [.lst ds] = some (.bl true) := by
  have e : ds = (List.replicate ds.length true).map .bl := by
    induction ds with
    | nil => rfl
    | cons d r ih =>
      rw [List.length_cons, List.replicate_succ, List.map_cons, ← ih fun x hx => h x (List.mem_cons_of_mem _ hx), h d List.mem_cons_self]
  rw [all_bls e]
  simp
theorem asked_all_ok {s : Sto} {n : Nat} {d : D} {es : List D} (hn : n ≤ 7) (hd : Vd n d) (he : ∀ e ∈ es, Vd n e) (hl : es.length ≤ 1000) : Wp (F__law_asked_all [d, .lst es] s) fun v s' => s' = s ∧ v = .bl true := by
  rw [F__law_asked_all, mFun_ap (n := 2) rfl, b__law_asked_all]
  walk_at "ev"
  refine ⟨es, rfl, ?_⟩
  refine Wp.mono (lc_pair (Rr := fun _ y => y = .bl true) (G := stays (.lst es) es) rfl es [] ?h (by simp; omega)) ?k
  case h =>
    intro x hx
    refine ⟨_, rfl, ?_⟩
    simp only [wipeE]
    walk_at "ev"
    exact asked_ok hn hd (he x hx)
  case k =>
    intro out s1 ⟨e, ys, e2, p⟩
    subst e
    rw [List.nil_append] at e2
    subst e2
    exact ⟨_, all_true fun y hy => by obtain ⟨x, _, h⟩ := Paired.mem p hy; exact h, rfl, rfl⟩
end K02
end
section
set_option maxRecDepth 100000
set_option maxHeartbeats 1000000
namespace K02
open PySem L2 Mi
local macro_rules | `(tactic| walk_at "ev") => `(tactic| simp only [Wp_ok, Wp_bind, Wp_quiet, WpS_fl, WpS_then, Nx_nx, Nx_rt, Nx_bk, Nx_ct, mVar_ap, mC_ap, mOp_ap, mUn_ap, mB_ap, mTru_ap, mAnd_ap, mOr_ap, mNot_ap,
  bAnd_ap, bOr_ap, bNot_ap, bYes_ap, mIf_ap, mNil_ap, mCons_ap, mTup_ap, mLst_ap, mLstR_ap, mDic0_ap, mCall_ap, mCb_ap, mMb_ap, mStr_ap, mRevT_ap, mPart_ap, mNoPart_ap, mSl_ap, mChain_ap, itL_ap, itT_ap, itS_ap, itR1_ap,
  sNil_ap, sSeq_ap, sIf_ap, sRet_ap, sRetN_ap, sBrk_ap, sCnt_ap, sExp_ap, sAsg_ap, sPar_ap, sPar3_ap, tgN_ap, tgNil_ap, tgCons_ap, sSetIx_ap, sFor_ap, Wp_mLc,
  List.map_cons, List.map_nil, List.cons_append, List.nil_append, List.replicate_succ, List.replicate_zero, List.getElem?_cons_zero, List.getElem?_cons_succ, List.set_cons_zero, List.set_cons_succ, List.length_cons, List.length_nil,
  Option.some.injEq, Option.bind_some, exists_eq_left, exists_eq_left', true_and, and_true, D.bl.injEq, D.int.injEq, D.str.injEq, D.ref.injEq, D.tup.injEq, D.lst.injEq, List.cons.injEq, if_true, if_false, Bool.false_eq_true, reduceCtorEq, false_and, and_false, or_false, false_or, exists_false])
local macro_rules | `(tactic| walk_at "isi") => `(tactic| simp only [isi_NoneType_bool, isi_NoneType_int, isi_NoneType_str, isi_NoneType_tuple, isi_NoneType_list, isi_NoneType_dict, isi_bool_bool, isi_bool_int, isi_bool_str, isi_bool_tuple, isi_bool_list, isi_bool_dict,
  isi_int_bool, isi_int_int, isi_int_str, isi_int_tuple, isi_int_list, isi_int_dict, isi_str_bool, isi_str_int, isi_str_str, isi_str_tuple, isi_str_list, isi_str_dict, isi_tuple_bool, isi_tuple_int, isi_tuple_str, isi_tuple_tuple, isi_tuple_list, isi_tuple_dict,
  isi_list_bool, isi_list_int, isi_list_str, isi_list_tuple, isi_list_list, isi_list_dict, isi_dict_bool, isi_dict_int, isi_dict_str, isi_dict_tuple, isi_dict_list, isi_dict_dict, tru_bl, tru_non, Option.some.injEq, exists_eq_left', exists_eq_left, if_true, if_false, Bool.false_eq_true, Bool.not_true, Bool.not_false, true_and, false_and, or_false, false_or, reduceCtorEq, D.bl.injEq])

def hand1 : List D := [.bl true, .int 1, .bl false, .int 0, .str "", .tup [], .str "1", .tup [.int 1], .tup [.bl true], .tup [.int 0], .tup [.bl false], .tup [.tup [.int 1]], .tup [.tup [.bl true]], .tup [.str "1"], .str "#a", .str "?a"]
def hand2 : List D := [.str "a", .tup [.int 1, .int 0], .tup [.bl true, .bl false], .tup [.int 1, .bl false], .tup [.tup [], .int 1], .tup [.tup [], .bl true], .tup [.str ""], .tup [.tup []], .int (-1), .str "-1", .str "#1.id"]
def hand3 : List D := [.str "?1.id"]
theorem v_str {x : Str} (h : (decide (x.length ≤ 80) && x.cps.toList.all fun c => decide (c < 128)) = true) {k : Nat} : Vd k (.str x) := Vd.sc (.inr (.inr ⟨x, rfl, by have := ok_const h; exact ⟨by omega, this.2⟩⟩)) _
theorem v_int {i : Int} (h : -1000000 ≤ i ∧ i ≤ 1000000) {k : Nat} : Vd k (.int i) := Vd.sc (.inr (.inl ⟨i, rfl, h.1, h.2⟩)) _
theorem v_bl {b : Bool} {k : Nat} : Vd k (.bl b) := Vd.sc (.inl ⟨b, rfl⟩) _
theorem v_t0 {k : Nat} : Vd (k + 1) (.tup []) := .inr ⟨[], rfl, by simp, by simp⟩
theorem v_t1 {k : Nat} {a : D} (h : Vd k a) : Vd (k + 1) (.tup [a]) := .inr ⟨_, rfl, by simp, fun x hx => by rw [List.mem_singleton.mp hx]; exact h⟩
theorem v_t2 {k : Nat} {a b : D} (h : Vd k a) (h2 : Vd k b) : Vd (k + 1) (.tup [a, b]) := .inr ⟨_, rfl, by simp, fun x hx => by
  simp only [List.mem_cons, List.not_mem_nil, or_false] at hx
  rcases hx with rfl | rfl
  · exact h
  · exact h2⟩
theorem hand_ok : ∀ x ∈ hand1 ++ hand2 ++ hand3, Vd 2 x := by
  intro x hx
  simp only [hand1, hand2, hand3, List.cons_append, List.nil_append, List.mem_cons, List.not_mem_nil, or_false] at hx
  rcases hx with h | h | h | h | h | h | h | h | h | h | h | h | h | h | h | h | h | h | h | h | h | h | h | h | h | h | h | h <;> subst h <;>
    first
      | exact v_bl
      | exact v_int (by decide)
      | exact v_str (by decide +kernel)
      | exact v_t0
      | exact v_t1 v_bl
      | exact v_t1 (v_int (by decide))
      | exact v_t1 (v_str (by decide +kernel))
      | exact v_t1 v_t0
      | exact v_t1 (v_t1 v_bl)
      | exact v_t1 (v_t1 (v_int (by decide)))
      | exact v_t2 v_bl v_bl
      | exact v_t2 (v_int (by decide)) (v_int (by decide))
      | exact v_t2 (v_int (by decide)) v_bl
      | exact v_t2 v_t0 v_bl
      | exact v_t2 v_t0 (v_int (by decide))
theorem by_hand_ok {s : Sto} : Wp (F__law_by_hand [] s) fun v s' => s' = s ∧ v = .lst (hand1 ++ hand2 ++ hand3) := by
  have sl : sizeLine = 16777216 := sizeLine_eq
  rw [F__law_by_hand, mFun_ap (n := 0) rfl, b__law_by_hand]
  simp only [List.map_cons, List.map_nil, List.cons_append, List.nil_append, List.replicate_succ, List.replicate_zero]
  refine seqK (fun e s' => e = [some (.lst hand1)] ∧ s = s') ?_ ?_
  · walk_at "ev"
    repeat (first | exact rfl | refine ⟨by decide, ?_⟩)
  rintro _ _ ⟨rfl, rfl⟩
  refine seqK (fun e s' => e = [some (.lst (hand1 ++ hand2))] ∧ s = s') ?_ ?_
  · walk_at "ev"
    repeat (first | exact rfl | refine ⟨by decide, ?_⟩ | refine ⟨_, add_lst (by decide), ?_⟩ | refine ⟨_, rfl, ?_⟩)
  rintro _ _ ⟨rfl, rfl⟩
  walk_at "ev"
  exact ⟨by decide, _, add_lst (by decide), rfl⟩
theorem lc_any {g : Tg} {fe : ET} {env : Mi.Env} {P : D → Prop} : ∀ (ds acc : List D) (s : Sto), (∀ d ∈ ds, ∃ e2, g d env = some e2 ∧ ∀ s, Wp (fe e2 s) fun y _ => P y) → acc.length + ds.length ≤ 1000000 → (∀ x ∈ acc, P x) →
      Wp (lcGo (fun _ => True) g bYes fe env ds acc s) fun out _ => ∀ x ∈ out, P x
  | [], acc, s, _, _, ha => by
    rw [lcGo, if_pos True.intro]
    exact ha
  | d :: r, acc, s, h, hl, ha => by
    obtain ⟨e2, he, hw⟩ := h d List.mem_cons_self
    rw [lcGo, if_pos True.intro, he]
    rw [List.length_cons] at hl
    walk_at "ev"
    refine (hw s).mono fun y s1 hy => ?_
    rw [if_pos (Nat.lt_of_lt_of_le (show acc.length < 1000001 by omega) (by decide))]
    refine lc_any r (acc ++ [y]) s1 (fun x hx => h x (List.mem_cons_of_mem _ hx)) (by simp; omega) fun x hx => ?_
    rcases List.mem_append.mp hx with hx | hx
    · exact ha x hx
    · rw [List.mem_singleton.mp hx]; exact hy
theorem ite_both {b : Bool} {P Q : Prop} (hp : P) (hq : Q) : if b = true then P else Q := by
  cases b
  · exact hq
  · exact hp
theorem pot_ok {s : Sto} {ns : List Int} {k : Int} (h0 : 0 ≤ k) (h3 : k < 3) : Wp (F__law_pot [.scr ns, .int k] s) fun v s' => ∃ n, v = .ref n ∧ PotAt s' n 0 := by
  rw [F__law_pot, mFun_ap (n := 2) rfl, b__law_pot]
  simp only [List.map_cons, List.map_nil, List.cons_append, List.nil_append, List.replicate_succ, List.replicate_zero]
  refine seqK (fun e s' => ∃ c, e = [some (.scr ns), some (.int k), some (.int c), none]) ?_ ?_
  · walk_at "ev"
    refine ⟨_, rfl, _, rfl, _, rfl, ?_⟩
    by_cases c : k < (ns.length : Int)
    · rw [if_pos (decide_eq_true c)]
      obtain ⟨x, hx, _⟩ := at_lt h0 c
      exact ⟨.int x, by show (atI ns k).map _ = _; rw [hx]; rfl, x, rfl⟩
    · rw [if_neg (by simpa using c)]
      exact ⟨_, mul_l (by decide) (by decide), _, rfl, _, rfl⟩
  rintro _ s ⟨c, rfl⟩
  refine seqK (fun e s' => ∃ g : Int, e = [some (.scr ns), some (.int k), some (.int c), some (.int g)] ∧ 0 ≤ g) ?_ ?_
  · walk_at "ev"
    refine ⟨_, rfl, _, pow_nn (j := 18) (k := 4) (by decide) (by decide) (by decide), _, rfl, _, rfl, ?_⟩
    refine ite_both ?_ (by decide)
    refine ⟨_, rfl, _, pow_nn (j := 60) (k := 4) (by decide) (by decide) (by decide), _, pow_nn (j := 3) (k := 200) (by decide) (by decide) (by decide), _, mod_pos (by decide), _, rfl, Int.emod_nonneg _ (by decide)⟩
  rintro _ s ⟨g, rfl, hg⟩
  walk_at "ev"
  have b1 := Int.emod_nonneg c (show (2305843009213693951 : Int) ≠ 0 by decide)
  have b2 := Int.emod_lt_of_pos c (show (0 : Int) < 2305843009213693951 by decide)
  refine ⟨_, mod_pos (by decide), _, mul_r (by decide) (by decide), _, mul_l (by decide) (by decide), _, mul_r (by omega) (by omega), _, rfl, _, rfl, _, mod_pos (by decide), by decide, g, _, 0, List.getElem?_concat_length, hg, ?_, ?_, by decide, by decide⟩
  · exact Int.emod_nonneg _ (by decide)
  · exact Int.lt_trans (Int.emod_lt_of_pos _ (by decide)) (by decide)
theorem right_ok {s : Sto} {n : Nat} (h : PotAt s n 0) : Wp (F__law_right [.ref n] s) fun v _ => v = .bl true := by
  rw [F__law_right, mFun_ap (n := 1) rfl, b__law_right]
  simp only [List.map_cons, List.map_nil, List.cons_append, List.nil_append, List.replicate_succ, List.replicate_zero]
  have c3 : valC 3 = 133800 := by decide
  have cb : bentC 3 = 12 := rfl
  refine seqK (fun e s' => ∃ xs, e = [some (.ref n), some (.lst xs), none, none, none, none, none] ∧ xs.length = 16 ∧ (∀ x ∈ xs, Vd 3 x) ∧ PotAt s' n 3000000) ?_ ?_
  · walk_at "ev"
    refine ⟨⟨by decide, by decide⟩, ?_⟩
    refine Wp.mono (lc_draw (n := n) (c := valC 3) (B := 2 ^ 40) (P := Vd 3) ?hg (rangeD 0 (16 : Int).toNat) [] s 0 (by decide) (by simp) h (by rw [c3]; decide)) ?_
    case hg =>
      intro d
      refine ⟨_, rfl, fun s T h hT => ?_⟩
      simp only [wipeE]
      walk_at "ev"
      exact value_ok 3 4 (by decide) h hT
    intro out s2 ⟨l2, h2, p2, u2⟩
    exact ⟨by rw [l2]; rfl, h2, p2.mono (by rw [c3]; decide)⟩
  rintro _ s ⟨xs, rfl, lx, hx, p⟩
  refine seqK (fun e s' => e = [some (.ref n), some (.lst xs), none, none, none, none, none] ∧ s = s') ?_ ?_
  · walk_at "ev"
    refine ⟨xs, rfl, ?_⟩
    refine Wp.mono (lc_pair (Rr := fun _ y => y = .bl true) (G := stays (.lst xs) xs) rfl xs [] ?h (by simp; omega)) ?k
    case h =>
      intro x hx'
      refine ⟨_, rfl, ?_⟩
      simp only [wipeE]
      walk_at "ev"
      exact asked_all_ok (n := 3) (by decide) (hx x hx') hx (by omega)
    case k =>
      intro out s1 ⟨e, ys, e2, p⟩
      subst e
      rw [List.nil_append] at e2
      subst e2
      refine ⟨_, all_true fun y hy => by obtain ⟨x, _, h⟩ := Paired.mem p hy; exact h, _, rfl, ?_⟩
      simp
  rintro _ _ ⟨rfl, rfl⟩
  refine seqK (fun e s' => True) ?_ ?_
  · walk_at "ev"
    refine ⟨xs, rfl, ?_⟩
    refine WpS_forGo (fun r e s => (∀ x ∈ r, Vd 3 x) ∧ (∃ a b c d, e = [some (.ref n), some (.lst xs), a, b, none, c, d]) ∧ ∃ T, PotAt s n T ∧ T + r.length * 100 ≤ 4000000) (fun _ _ _ _ => rfl) ?step (fun _ _ _ => trivial) xs _ s ⟨hx, ⟨_, _, _, _, rfl⟩, 3000000, p, by omega⟩
    case step =>
      rintro one r _ s ⟨hr, ⟨a, b, c, d, rfl⟩, T, p, hT⟩
      refine ⟨_, rfl, ?_⟩
      walk_at "ev"
      have h1 : Vd 3 one := hr one List.mem_cons_self
      rw [List.length_cons] at hT
      refine ⟨⟨by decide, by decide⟩, ?_⟩
      refine WpS_forGo (fun r' e s => (∃ b c d, e = [some (.ref n), some (.lst xs), some one, b, none, c, d]) ∧ ∃ T', PotAt s n T' ∧ T' + r'.length * 20 ≤ T + 80) (fun _ _ _ _ => trivial) ?step2 ?fin (rangeD 0 (4 : Int).toNat) _ s ⟨⟨_, _, _, rfl⟩, T, p, by have : (rangeD 0 (4 : Int).toNat).length = 4 := rfl; omega⟩
      case step2 =>
        rintro t r' _ s ⟨⟨b, c, d, rfl⟩, T', p', hT'⟩
        refine ⟨_, rfl, ?_⟩
        rw [List.length_cons] at hT'
        refine seqK (fun e s' => ∃ b v d, e = [some (.ref n), some (.lst xs), some one, b, none, some v, d] ∧ Th 5 v ∧ PotAt s' n (T' + 12)) ?_ ?_
        · walk_at "ev"
          refine (bent_ok 3 4 3 (by decide) (by decide) p' (by omega) h1).mono fun v s1 ⟨hv, p1, u1⟩ => ?_
          exact ⟨_, v, _, ⟨rfl, rfl, rfl⟩, hv, p1⟩
        rintro _ s ⟨b, v, d, rfl, hv, p1⟩
        refine seqK (fun e s' => ∃ b j, e = [some (.ref n), some (.lst xs), some one, b, none, some v, some j] ∧ PotAt s' n (T' + 12) ∧ (j = .non ∨ ∃ i : Nat, j = .int (i : Int) ∧ Vd i v)) ?_ ?_
        · walk_at "ev"
          refine (deep_ok 5 9 (by decide) hv).mono fun j s1 ⟨e1, hj⟩ => ?_
          subst e1
          exact ⟨_, j, ⟨rfl, rfl⟩, p1, hj⟩
        rintro _ s ⟨b, j, rfl, p1, hj⟩
        have fin : (∃ b_1 c d, (b = b_1 ∧ some v = c ∧ some j = d)) ∧ ∃ T'_1, PotAt s n T'_1 ∧ T'_1 + r'.length * 20 ≤ T + 80 := ⟨⟨_, _, _, rfl, rfl, rfl⟩, _, p1, by omega⟩
        walk_at "ev"
        rcases hj with rfl | ⟨i, rfl, hi⟩
        · refine ⟨_, rfl, _, rfl, ?_⟩
          simp only [isNonD, Bool.not_true, Bool.false_eq_true, if_false]
          exact fin
        · refine ⟨_, rfl, _, rfl, ?_⟩
          simp only [isNonD, Bool.not_false, if_true]
          refine ⟨_, rfl, _, rfl, ?_⟩
          by_cases c3 : (i : Int) ≤ 3
          · rw [if_pos (decide_eq_true c3)]
            refine (asked_ok (n := 3) (by decide) h1 (hi.up (by omega))).mono fun v s1 ⟨e1, e2⟩ => ?_
            subst e1; subst e2
            refine ⟨_, rfl, ?_⟩
            simp only [Bool.not_true, Bool.false_eq_true, if_false]
            exact fin
          · rw [if_neg (by simpa using c3)]
            exact fin
      case fin =>
        rintro _ s ⟨⟨b, c, d, rfl⟩, T', p', hT'⟩
        exact ⟨fun x hx => hr x (List.mem_cons_of_mem _ hx), ⟨_, _, _, _, rfl⟩, T', p', by simp at hT'; omega⟩
  intro e s _
  walk_at "ev"
theorem law_mir {s : Sto} (ns : List Int) : Wp (F_law [.scr ns] s) fun v _ => v = .bl true := by
  rw [F_law, mFun_ap (n := 1) rfl, b_law]
  simp only [List.map_cons, List.map_nil, List.cons_append, List.nil_append, List.replicate_succ, List.replicate_zero]
  refine seqK (fun e s' => ∃ a b, e = [some (.scr ns), a, b]) ?_ ?_
  · walk_at "ev"
    refine by_hand_ok.mono fun v s1 ⟨e1, e2⟩ => ?_
    subst e1; subst e2
    refine ⟨_, rfl, ?_⟩
    refine WpS_forGo (fun r e s => (∀ x ∈ r, Vd 2 x) ∧ ∃ a, e = [some (.scr ns), a, none]) (fun _ _ _ _ => rfl) ?step ?fin _ _ s1 ⟨hand_ok, _, rfl⟩
    case step =>
      rintro one r _ s ⟨hr, a, rfl⟩
      refine ⟨_, rfl, ?_⟩
      walk_at "ev"
      refine by_hand_ok.mono fun v s1 ⟨e1, e2⟩ => ?_
      subst e1; subst e2
      refine (asked_all_ok (n := 2) (by decide) (hr one List.mem_cons_self) hand_ok (by decide)).mono fun v s2 ⟨e1, e2⟩ => ?_
      subst e1; subst e2
      refine ⟨_, rfl, ?_⟩
      simp only [Bool.not_true, Bool.false_eq_true, if_false]
      exact ⟨fun x hx => hr x (List.mem_cons_of_mem _ hx), _, rfl⟩
    case fin =>
      rintro _ s ⟨_, a, rfl⟩
      exact ⟨_, _, rfl⟩
  rintro _ s ⟨a, b, rfl⟩
  walk_at "ev"
  have mx : ∃ j : Int, cbMax s [.int 1, .int (if (ns.length : Int) < 3 then (ns.length : Int) else 3)] = some (.int j) ∧ 0 ≤ j ∧ j ≤ 3 := by
    refine ⟨_, rfl, ?_⟩
    split <;> split <;> omega
  obtain ⟨j, ej, j0, j3⟩ := mx
  refine ⟨_, rfl, _, rfl, _, ej, j, rfl, ⟨by omega, by omega⟩, ?_⟩
  refine Wp.mono (lc_any (P := fun y => y = .bl true) (rangeD 0 j.toNat) [] s ?h (by simp [rangeD]; omega) (by simp)) ?_
  case h =>
    intro d hd
    obtain ⟨i, i0, i1, rfl⟩ : ∃ i : Int, 0 ≤ i ∧ i < 3 ∧ d = .int i := by
      unfold rangeD at hd
      obtain ⟨i, hi, rfl⟩ := List.mem_map.mp hd
      have := List.mem_range.mp hi
      exact ⟨_, by omega, by omega, rfl⟩
    refine ⟨_, rfl, fun s => ?_⟩
    simp only [wipeE]
    walk_at "ev"
    refine (pot_ok i0 i1).mono fun v s1 ⟨n, e, p⟩ => ?_
    subst e
    exact right_ok p
  intro out s1 ho
  exact ⟨_, all_true ho, rfl⟩
end K02
end
section
set_option maxRecDepth 100000
namespace K02
open PySem L2 Mi
def spLaw (K : PySem.W.Frag) : Sp := fun vs H Q _ => ∃ (a : Addr) (ns : List Int), vs = [.ref a] ∧ SqL K H a (ns.map V.int) ∧ ∀ H', Q (.bl true) H'
theorem law_spec {K : PySem.W.Frag} {mg : Str → Option Value} {vs : List V} {H : Hp} {Q : VK} {E : XK} (h : spLaw K vs H Q E) : spM ⟨K, mg⟩ F_law vs H Q E := by
  obtain ⟨a, ns, rfl, hS, q⟩ := h
  have nl : ¬ Lv ⟨[], [], []⟩ a := by
    rintro (⟨n, o, h, _⟩ | h)
    · simp at h
    · simp at h
  refine ⟨⟨[], [], []⟩, [.scr ns], ⟨rfl, by simp, by simp, by simp⟩, .cons (.scr (hS.imp (fun z => ⟨z, nl⟩) id)) .nil, ?_⟩
  have z := law_mir (s := []) ns
  show Fin _ _ _ _ (F_law [.scr ns] []) _
  cases e : F_law [.scr ns] [] with
  | no => rw [e] at z; exact z.elim
  | ex x s => rw [e] at z; exact z.elim
  | ok d s =>
    rw [e] at z
    have z : d = .bl true := z
    subst z
    intro c1 H1 _ _ _ v r
    cases r
    exact q H1
theorem all_mk {l : PySem.W.OpenLaw} {w : World} {K : PySem.W.Frag} {h : Heap} {mg : Str → Option Value} {fa f1 f2 f3 f4 f5 f6 f7 f8 f9 f10 f11 f12 f13 f14 f15 f16 : Addr} (X : K.In h) (G : h.Ns mainGlobals mg) (hfa : mg "law" = some (.ref fa))
    {od1 an1 od2 an2 od3 an3 od4 an4 od5 an5 od6 an6 od7 an7 od8 an8 od9 an9 od10 an10 od11 an11 od12 an12 od13 an13 od14 an14 od15 an15 od16 an16 : Option Addr} {sl1 sl2 sl3 sl4 sl5 sl6 sl7 sl8 sl9 sl10 sl11 sl12 sl13 sl14 sl15 sl16 : Array (Option Value)} {oc1 kV1 dc1 pm1 cd1 ct1 oc2 kV2 dc2 pm2 cd2 ct2 oc3 kV3 dc3 pm3 cd3 ct3 oc4 kV4 dc4 pm4 cd4 ct4 oc5 kV5 dc5 pm5 cd5 ct5 oc6 kV6 dc6 pm6 cd6 ct6 oc7 kV7 dc7 pm7 cd7 ct7 oc8 kV8 dc8 pm8 cd8 ct8 oc9 kV9 dc9 pm9 cd9 ct9 oc10 kV10 dc10 pm10 cd10 ct10 oc11 kV11 dc11 pm11 cd11 ct11 oc12 kV12 dc12 pm12 cd12 ct12 oc13 kV13 dc13 pm13 cd13 ct13 oc14 kV14 dc14 pm14 cd14 ct14 oc15 kV15 dc15 pm15 cd15 ct15 oc16 kV16 dc16 pm16 cd16 ct16 : Value}
    (a1 : PySem.W.nsIn K mainGlobals "alike" = some (some (.ref f1))) (l1 : K.lookup f1 = some ⟨oc1, od1, .func (PySem.W.fnOf "alike" "alike" (defArgs s_alike) (defBody s_alike) (defScope s_alike) .none kV1 dc1 pm1 an1 cd1 ct1), sl1⟩) (c1 : PySem.W.codeIn K cd1 "alike" = true) (k1 : PySem.W.keepIn K (.ref f1) = true)
    (a2 : PySem.W.nsIn K mainGlobals "_law_pot" = some (some (.ref f2))) (l2 : K.lookup f2 = some ⟨oc2, od2, .func (PySem.W.fnOf "_law_pot" "_law_pot" (defArgs s__law_pot) (defBody s__law_pot) (defScope s__law_pot) .none kV2 dc2 pm2 an2 cd2 ct2), sl2⟩) (c2 : PySem.W.codeIn K cd2 "_law_pot" = true) (k2 : PySem.W.keepIn K (.ref f2) = true)
    (a3 : PySem.W.nsIn K mainGlobals "_law_take" = some (some (.ref f3))) (l3 : K.lookup f3 = some ⟨oc3, od3, .func (PySem.W.fnOf "_law_take" "_law_take" (defArgs s__law_take) (defBody s__law_take) (defScope s__law_take) .none kV3 dc3 pm3 an3 cd3 ct3), sl3⟩) (c3 : PySem.W.codeIn K cd3 "_law_take" = true) (k3 : PySem.W.keepIn K (.ref f3) = true)
    (a4 : PySem.W.nsIn K mainGlobals "_law_pick" = some (some (.ref f4))) (l4 : K.lookup f4 = some ⟨oc4, od4, .func (PySem.W.fnOf "_law_pick" "_law_pick" (defArgs s__law_pick) (defBody s__law_pick) (defScope s__law_pick) .none kV4 dc4 pm4 an4 cd4 ct4), sl4⟩) (c4 : PySem.W.codeIn K cd4 "_law_pick" = true) (k4 : PySem.W.keepIn K (.ref f4) = true)
    (a5 : PySem.W.nsIn K mainGlobals "_law_sort" = some (some (.ref f5))) (l5 : K.lookup f5 = some ⟨oc5, od5, .func (PySem.W.fnOf "_law_sort" "_law_sort" (defArgs s__law_sort) (defBody s__law_sort) (defScope s__law_sort) .none kV5 dc5 pm5 an5 cd5 ct5), sl5⟩) (c5 : PySem.W.codeIn K cd5 "_law_sort" = true) (k5 : PySem.W.keepIn K (.ref f5) = true)
    (a6 : PySem.W.nsIn K mainGlobals "_law_deep" = some (some (.ref f6))) (l6 : K.lookup f6 = some ⟨oc6, od6, .func (PySem.W.fnOf "_law_deep" "_law_deep" (defArgs s__law_deep) (defBody s__law_deep) (defScope s__law_deep) .none kV6 dc6 pm6 an6 cd6 ct6), sl6⟩) (c6 : PySem.W.codeIn K cd6 "_law_deep" = true) (k6 : PySem.W.keepIn K (.ref f6) = true)
    (a7 : PySem.W.nsIn K mainGlobals "_law_plain" = some (some (.ref f7))) (l7 : K.lookup f7 = some ⟨oc7, od7, .func (PySem.W.fnOf "_law_plain" "_law_plain" (defArgs s__law_plain) (defBody s__law_plain) (defScope s__law_plain) .none kV7 dc7 pm7 an7 cd7 ct7), sl7⟩) (c7 : PySem.W.codeIn K cd7 "_law_plain" = true) (k7 : PySem.W.keepIn K (.ref f7) = true)
    (a8 : PySem.W.nsIn K mainGlobals "_law_value" = some (some (.ref f8))) (l8 : K.lookup f8 = some ⟨oc8, od8, .func (PySem.W.fnOf "_law_value" "_law_value" (defArgs s__law_value) (defBody s__law_value) (defScope s__law_value) .none kV8 dc8 pm8 an8 cd8 ct8), sl8⟩) (c8 : PySem.W.codeIn K cd8 "_law_value" = true) (k8 : PySem.W.keepIn K (.ref f8) = true)
    (a9 : PySem.W.nsIn K mainGlobals "_law_near" = some (some (.ref f9))) (l9 : K.lookup f9 = some ⟨oc9, od9, .func (PySem.W.fnOf "_law_near" "_law_near" (defArgs s__law_near) (defBody s__law_near) (defScope s__law_near) .none kV9 dc9 pm9 an9 cd9 ct9), sl9⟩) (c9 : PySem.W.codeIn K cd9 "_law_near" = true) (k9 : PySem.W.keepIn K (.ref f9) = true)
    (a10 : PySem.W.nsIn K mainGlobals "_law_bent" = some (some (.ref f10))) (l10 : K.lookup f10 = some ⟨oc10, od10, .func (PySem.W.fnOf "_law_bent" "_law_bent" (defArgs s__law_bent) (defBody s__law_bent) (defScope s__law_bent) .none kV10 dc10 pm10 an10 cd10 ct10), sl10⟩) (c10 : PySem.W.codeIn K cd10 "_law_bent" = true) (k10 : PySem.W.keepIn K (.ref f10) = true)
    (a11 : PySem.W.nsIn K mainGlobals "_law_alike" = some (some (.ref f11))) (l11 : K.lookup f11 = some ⟨oc11, od11, .func (PySem.W.fnOf "_law_alike" "_law_alike" (defArgs s__law_alike) (defBody s__law_alike) (defScope s__law_alike) .none kV11 dc11 pm11 an11 cd11 ct11), sl11⟩) (c11 : PySem.W.codeIn K cd11 "_law_alike" = true) (k11 : PySem.W.keepIn K (.ref f11) = true)
    (a12 : PySem.W.nsIn K mainGlobals "_law_asked" = some (some (.ref f12))) (l12 : K.lookup f12 = some ⟨oc12, od12, .func (PySem.W.fnOf "_law_asked" "_law_asked" (defArgs s__law_asked) (defBody s__law_asked) (defScope s__law_asked) .none kV12 dc12 pm12 an12 cd12 ct12), sl12⟩) (c12 : PySem.W.codeIn K cd12 "_law_asked" = true) (k12 : PySem.W.keepIn K (.ref f12) = true)
    (a13 : PySem.W.nsIn K mainGlobals "_law_asked_all" = some (some (.ref f13))) (l13 : K.lookup f13 = some ⟨oc13, od13, .func (PySem.W.fnOf "_law_asked_all" "_law_asked_all" (defArgs s__law_asked_all) (defBody s__law_asked_all) (defScope s__law_asked_all) .none kV13 dc13 pm13 an13 cd13 ct13), sl13⟩) (c13 : PySem.W.codeIn K cd13 "_law_asked_all" = true) (k13 : PySem.W.keepIn K (.ref f13) = true)
    (a14 : PySem.W.nsIn K mainGlobals "_law_by_hand" = some (some (.ref f14))) (l14 : K.lookup f14 = some ⟨oc14, od14, .func (PySem.W.fnOf "_law_by_hand" "_law_by_hand" (defArgs s__law_by_hand) (defBody s__law_by_hand) (defScope s__law_by_hand) .none kV14 dc14 pm14 an14 cd14 ct14), sl14⟩) (c14 : PySem.W.codeIn K cd14 "_law_by_hand" = true) (k14 : PySem.W.keepIn K (.ref f14) = true)
    (a15 : PySem.W.nsIn K mainGlobals "_law_right" = some (some (.ref f15))) (l15 : K.lookup f15 = some ⟨oc15, od15, .func (PySem.W.fnOf "_law_right" "_law_right" (defArgs s__law_right) (defBody s__law_right) (defScope s__law_right) .none kV15 dc15 pm15 an15 cd15 ct15), sl15⟩) (c15 : PySem.W.codeIn K cd15 "_law_right" = true) (k15 : PySem.W.keepIn K (.ref f15) = true)
    (a16 : PySem.W.nsIn K mainGlobals "law" = some (some (.ref f16))) (l16 : K.lookup f16 = some ⟨oc16, od16, .func (PySem.W.fnOf "law" "law" (defArgs s_law) (defBody s_law) (defScope s_law) .none kV16 dc16 pm16 an16 cd16 ct16), sl16⟩) (c16 : PySem.W.codeIn K cd16 "law" = true) (k16 : PySem.W.keepIn K (.ref f16) = true)
    (z0 : PySem.W.nsIn K mainGlobals "abs" = some none)
    (z1 : PySem.W.nsIn K mainGlobals "all" = some none)
    (z2 : PySem.W.nsIn K mainGlobals "bool" = some none)
    (z3 : PySem.W.nsIn K mainGlobals "int" = some none)
    (z4 : PySem.W.nsIn K mainGlobals "isinstance" = some none)
    (z5 : PySem.W.nsIn K mainGlobals "len" = some none)
    (z6 : PySem.W.nsIn K mainGlobals "list" = some none)
    (z7 : PySem.W.nsIn K mainGlobals "max" = some none)
    (z8 : PySem.W.nsIn K mainGlobals "min" = some none)
    (z9 : PySem.W.nsIn K mainGlobals "range" = some none)
    (z10 : PySem.W.nsIn K mainGlobals "repr" = some none)
    (z11 : PySem.W.nsIn K mainGlobals "str" = some none)
    (z12 : PySem.W.nsIn K mainGlobals "tuple" = some none)
    (z13 : PySem.W.nsIn K mainGlobals "zip" = some none) :
    ∃ fd : FuncData, (∀ (s : Shared) (v : Value), BindsTo s fd ⟨[v], []⟩ [("_law_script", v)]) ∧ ∀ base : Heap, K.In base → base.Ns mainGlobals mg → FnOk l.prog w K mg base CX0 13 fa fd ["_law_script"] (spLaw K) := by
  have e := hfa.symm.trans (PySem.W.mg_of X G a16)
  cases e
  have F1 := fun_mk (st := s_alike) l1 c1 k1
  have F2 := fun_mk (st := s__law_pot) l2 c2 k2
  have F3 := fun_mk (st := s__law_take) l3 c3 k3
  have F4 := fun_mk (st := s__law_pick) l4 c4 k4
  have F5 := fun_mk (st := s__law_sort) l5 c5 k5
  have F6 := fun_mk (st := s__law_deep) l6 c6 k6
  have F7 := fun_mk (st := s__law_plain) l7 c7 k7
  have F8 := fun_mk (st := s__law_value) l8 c8 k8
  have F9 := fun_mk (st := s__law_near) l9 c9 k9
  have F10 := fun_mk (st := s__law_bent) l10 c10 k10
  have F11 := fun_mk (st := s__law_alike) l11 c11 k11
  have F12 := fun_mk (st := s__law_asked) l12 c12 k12
  have F13 := fun_mk (st := s__law_asked_all) l13 c13 k13
  have F14 := fun_mk (st := s__law_by_hand) l14 c14 k14
  have F15 := fun_mk (st := s__law_right) l15 c15 k15
  have F16 := fun_mk (st := s_law) l16 c16 k16
  have b1 := F1.binds (ps := ["one", "other"]) fun _ _ _ _ _ _ us hl => match us, hl with | [_, _], _ => rfl
  have b2 := F2.binds (ps := ["_law_script", "_law_k"]) fun _ _ _ _ _ _ us hl => match us, hl with | [_, _], _ => rfl
  have b3 := F3.binds (ps := ["_law_pot_here", "_law_size"]) fun _ _ _ _ _ _ us hl => match us, hl with | [_, _], _ => rfl
  have b4 := F4.binds (ps := ["_law_pot_here", "_law_some"]) fun _ _ _ _ _ _ us hl => match us, hl with | [_, _], _ => rfl
  have b5 := F5.binds (ps := ["_law_thing"]) fun _ _ _ _ _ _ us hl => match us, hl with | [_], _ => rfl
  have b6 := F6.binds (ps := ["_law_thing"]) fun _ _ _ _ _ _ us hl => match us, hl with | [_], _ => rfl
  have b7 := F7.binds (ps := ["_law_pot_here"]) fun _ _ _ _ _ _ us hl => match us, hl with | [_], _ => rfl
  have b8 := F8.binds (ps := ["_law_pot_here", "_law_deep_here"]) fun _ _ _ _ _ _ us hl => match us, hl with | [_, _], _ => rfl
  have b9 := F9.binds (ps := ["_law_pot_here", "_law_part"]) fun _ _ _ _ _ _ us hl => match us, hl with | [_, _], _ => rfl
  have b10 := F10.binds (ps := ["_law_pot_here", "_law_thing", "_law_deep_here"]) fun _ _ _ _ _ _ us hl => match us, hl with | [_, _, _], _ => rfl
  have b11 := F11.binds (ps := ["_law_one", "_law_other"]) fun _ _ _ _ _ _ us hl => match us, hl with | [_, _], _ => rfl
  have b12 := F12.binds (ps := ["_law_one", "_law_other"]) fun _ _ _ _ _ _ us hl => match us, hl with | [_, _], _ => rfl
  have b13 := F13.binds (ps := ["_law_one", "_law_some"]) fun _ _ _ _ _ _ us hl => match us, hl with | [_, _], _ => rfl
  have b14 := F14.binds (ps := []) fun _ _ _ _ _ _ us hl => match us, hl with | [], _ => rfl
  have b15 := F15.binds (ps := ["_law_pot_here"]) fun _ _ _ _ _ _ us hl => match us, hl with | [_], _ => rfl
  have b16 := F16.binds (ps := ["_law_script"]) fun _ _ _ _ _ _ us hl => match us, hl with | [_], _ => rfl
  let T : Tx K mg := {
    alike := ⟨_, _, F1, PySem.W.mg_of X G a1, b1⟩
    _law_pot := ⟨_, _, F2, PySem.W.mg_of X G a2, b2⟩
    _law_take := ⟨_, _, F3, PySem.W.mg_of X G a3, b3⟩
    _law_pick := ⟨_, _, F4, PySem.W.mg_of X G a4, b4⟩
    _law_sort := ⟨_, _, F5, PySem.W.mg_of X G a5, b5⟩
    _law_deep := ⟨_, _, F6, PySem.W.mg_of X G a6, b6⟩
    _law_plain := ⟨_, _, F7, PySem.W.mg_of X G a7, b7⟩
    _law_value := ⟨_, _, F8, PySem.W.mg_of X G a8, b8⟩
    _law_near := ⟨_, _, F9, PySem.W.mg_of X G a9, b9⟩
    _law_bent := ⟨_, _, F10, PySem.W.mg_of X G a10, b10⟩
    _law_alike := ⟨_, _, F11, PySem.W.mg_of X G a11, b11⟩
    _law_asked := ⟨_, _, F12, PySem.W.mg_of X G a12, b12⟩
    _law_asked_all := ⟨_, _, F13, PySem.W.mg_of X G a13, b13⟩
    _law_by_hand := ⟨_, _, F14, PySem.W.mg_of X G a14, b14⟩
    _law_right := ⟨_, _, F15, PySem.W.mg_of X G a15, b15⟩
    law := ⟨_, _, F16, PySem.W.mg_of X G a16, b16⟩
    z_abs := PySem.W.mg_none_of X G z0
    z_all := PySem.W.mg_none_of X G z1
    z_bool := PySem.W.mg_none_of X G z2
    z_int := PySem.W.mg_none_of X G z3
    z_isinstance := PySem.W.mg_none_of X G z4
    z_len := PySem.W.mg_none_of X G z5
    z_list := PySem.W.mg_none_of X G z6
    z_max := PySem.W.mg_none_of X G z7
    z_min := PySem.W.mg_none_of X G z8
    z_range := PySem.W.mg_none_of X G z9
    z_repr := PySem.W.mg_none_of X G z10
    z_str := PySem.W.mg_none_of X G z11
    z_tuple := PySem.W.mg_none_of X G z12
    z_zip := PySem.W.mg_none_of X G z13 }
  exact ⟨PySem.W.fnOf "law" "law" (defArgs s_law) (defBody s_law) (defScope s_law) .none kV16 dc16 pm16 an16 cd16 ct16, fun s v => .of_eq rfl, fun base _ _ => (ok_law (P := l.prog) (w := w) (base := base) T).imp fun vs H Q E h => law_spec h⟩
theorem walk {l : PySem.W.OpenLaw} {q : Program} {loose : List Str} {XP : (Str → Option Value) → Heap → Prop} {YP : World → Heap → Prop} {d : DefRec} {K : Params → PySem.W.Frag} (hn : l.most = some 63) (hdf : d.params.defaults = [])
    (hY : ∀ (w : World) (h : Heap), YP w h → (K w.params).In h)
    (F : ∀ (w : World) (mg : Str → Option Value) (fa : Addr) (h : Heap), (K w.params).In h → h.Ns mainGlobals mg → mg d.name = some (.ref fa) →
      ∃ fd : FuncData, (∀ (s : Shared) (u : Value), BindsTo s fd ⟨[u], []⟩ [("_law_script", u)]) ∧ ∀ base : Heap, (K w.params).In base → base.Ns mainGlobals mg → FnOk l.prog w (K w.params) mg base CX0 13 fa fd ["_law_script"] (spLaw (K w.params))) :
    PySem.W.WalkO q loose XP YP l.row.toRowW d [] (fun f vs => PySem.call f vs) :=
  L2.walk_of (n := 63) (k := 13) (x := "_law_script") (CX := fun _ => CX0) (sp := fun w => spLaw (K w.params)) hn (by decide) hdf ⟨rfl, by decide, by decide⟩ hY F (fun _ _ a ns hl _ hS => ⟨a, ns, rfl, hS, fun _ => rfl⟩) fun _ _ _ _ _ z => z
end K02
open PySem PySem.W PyProof.Rows
set_option maxRecDepth 100000 in
set_option maxHeartbeats 0 in
theorem PySem.Challenge.cw_laterknown_k02_values_alike_holds : PySem.Challenge.rw_laterknown_k02_values_alike.Holds := by
  w_on; o_law; k_head; (case hw => w_witness2)
  k_fill
  refine K02.walk (l := PySem.Challenge.rw_laterknown_k02_values_alike) rfl rfl (fun w h Y => PySem.W.kIn_of Y) ?F
  case F =>
    intro w mg fa h KX G hmg
    refine' K02.all_mk KX G hmg ?a1 ?l1 ?c1 ?k1 ?a2 ?l2 ?c2 ?k2 ?a3 ?l3 ?c3 ?k3 ?a4 ?l4 ?c4 ?k4 ?a5 ?l5 ?c5 ?k5 ?a6 ?l6 ?c6 ?k6 ?a7 ?l7 ?c7 ?k7 ?a8 ?l8 ?c8 ?k8 ?a9 ?l9 ?c9 ?k9 ?a10 ?l10 ?c10 ?k10 ?a11 ?l11 ?c11 ?k11 ?a12 ?l12 ?c12 ?k12 ?a13 ?l13 ?c13 ?k13 ?a14 ?l14 ?c14 ?k14 ?a15 ?l15 ?c15 ?k15 ?a16 ?l16 ?c16 ?k16 ?z0 ?z1 ?z2 ?z3 ?z4 ?z5 ?z6 ?z7 ?z8 ?z9 ?z10 ?z11 ?z12 ?z13
    (case a1 => k_is); (case l1 => k_is); (case c1 => k_is); (case k1 => k_is)
    (case a2 => k_is); (case l2 => k_is); (case c2 => k_is); (case k2 => k_is)
    (case a3 => k_is); (case l3 => k_is); (case c3 => k_is); (case k3 => k_is)
    (case a4 => k_is); (case l4 => k_is); (case c4 => k_is); (case k4 => k_is)
    (case a5 => k_is); (case l5 => k_is); (case c5 => k_is); (case k5 => k_is)
    (case a6 => k_is); (case l6 => k_is); (case c6 => k_is); (case k6 => k_is)
    (case a7 => k_is); (case l7 => k_is); (case c7 => k_is); (case k7 => k_is)
    (case a8 => k_is); (case l8 => k_is); (case c8 => k_is); (case k8 => k_is)
    (case a9 => k_is); (case l9 => k_is); (case c9 => k_is); (case k9 => k_is)
    (case a10 => k_is); (case l10 => k_is); (case c10 => k_is); (case k10 => k_is)
    (case a11 => k_is); (case l11 => k_is); (case c11 => k_is); (case k11 => k_is)
    (case a12 => k_is); (case l12 => k_is); (case c12 => k_is); (case k12 => k_is)
    (case a13 => k_is); (case l13 => k_is); (case c13 => k_is); (case k13 => k_is)
    (case a14 => k_is); (case l14 => k_is); (case c14 => k_is); (case k14 => k_is)
    (case a15 => k_is); (case l15 => k_is); (case c15 => k_is); (case k15 => k_is)
    (case a16 => k_is); (case l16 => k_is); (case c16 => k_is); (case k16 => k_is)
    (case z0 => k_is); (case z1 => k_is); (case z2 => k_is); (case z3 => k_is); (case z4 => k_is); (case z5 => k_is); (case z6 => k_is); (case z7 => k_is); (case z8 => k_is); (case z9 => k_is); (case z10 => k_is); (case z11 => k_is); (case z12 => k_is); (case z13 => k_is)
end
