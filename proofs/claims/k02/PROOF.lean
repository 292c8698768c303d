import PyProof.Rows.All
import Wide.All
import OpenK.AllK
import Wide.FinOn
import HandS.ForMost
import HandS.Exc
import HandS.ExcOwn
import HandS.ExcInit
import HandS.ExcIs
import HandS.ExcField
import HandS.Lambda
import HandS.IsInst
import HandS.TupAny
import HandS.TupMul
import HandS.Wide
import HandS.More
import HandS.Zip
import HandS.Style
import KE.GoesEnum
import HandS.Defaults
import HandS.Dict
import HandS.Deep
import HandS.Iter
import HandS.SortInts
import HandS.DictComp
import KE.KUnpackStar
import HandS.SortOrd
import HandS.SortRule
import HandS.ListItems
import HandS.SetKeys
import KE.KDictCopyH
import HandS.ExcValue
import HandS.Head0
import HandS.Head1
import HandS.Head2
import HandS.HeadEnd
import HandS.HeadHook1
import HandS.HeadHook2
import HandS.HeadHook4
import HandS.EndTab
import KE.KExcInit
import PySem.Challenge.RW_linkheralds_k02_neighbours_and_prices
import KE.KStateDown
set_option Elab.async false
set_option linter.all false
set_option maxRecDepth 100000
set_option maxHeartbeats 4000000
set_option autoImplicit false
/-! DLa: the data layer. Python values as plain data (PyData), what a body does as functions on such data, over HandS. -/
namespace DL
open PySem L2

abbrev D := PyData
abbrev Fr := PySem.W.Frag
abbrev TbT := List (Addr × Str)
/-- what is known of the text: its objects, its names, the tables of its lambdas' makers -/
structure Kg where
  fr : PySem.W.Frag
  mg : Str → Option Value
  T : TbT
abbrev Fg := Kg
abbrev _root_.L2.Cx.kg (X : L2.Cx) (T : TbT) : Kg := ⟨X.K, X.mg, T⟩

/-! ### heaps -/
/-- a mark in F: the object there is a part of a name's own tree -/
def Mk : HO → Bool
  | .own _ => true
  | _ => false
/-- F's objects stand in G (marks may go) -/
def Sub (F G : Hp) : Prop := ∀ a o, F a = some o → Mk o = false → G a = some o
theorem Sub.refl (F : Hp) : Sub F F := fun _ _ h _ => h
theorem Sub.trans {F G H : Hp} (s : Sub F G) (t : Sub G H) : Sub F H := fun a o h m => t a o (s a o h m) m
theorem Sub.new {F : Hp} {p : Addr} {o : HO} (h : F p = none) : Sub F (upd F p o) := fun a u e _ => by
  rw [upd_ne (ne_of_none e h)]; exact e
/-- a dict: what a loop may lock -/
def IsDct : HO → Prop
  | .dK _ => True
  | .dT _ => True
  | _ => False
/-- F's objects stand in H, dicts perhaps locked -/
def Lk (F H : Hp) : Prop := ∀ a o, F a = some o → H a = some o ∨ (IsDct o ∧ ∃ ob, H a = some (.frz ob o)) ∨ (Mk o = true ∧ H a ≠ none)
theorem Lk.lst {F H : Hp} (s : Lk F H) {a : Addr} {xs : List V} (h : F a = some (.lst xs)) : H a = some (.lst xs) := by
  rcases s a _ h with h | ⟨z, _⟩ | ⟨z, _⟩
  · exact h
  · exact z.elim
  · cases z
theorem Lk.tup {F H : Hp} (s : Lk F H) {a : Addr} {xs : List V} (h : F a = some (.tup xs)) : H a = some (.tup xs) := by
  rcases s a _ h with h | ⟨z, _⟩ | ⟨z, _⟩
  · exact h
  · exact z.elim
  · cases z
theorem Lk.rd {F H : Hp} (s : Lk F H) {a : Addr} {u : HO} (m : Mk u = false) (h : Rd F a u) : Rd H a u := by
  rcases h with h | ⟨ob, h⟩
  · rcases s a _ h with h | ⟨_, ob, h⟩ | ⟨z, _⟩
    · exact .inl h
    · exact .inr ⟨ob, h⟩
    · rw [m] at z; cases z
  · rcases s a _ h with h | ⟨b, _⟩ | ⟨z, _⟩
    · exact .inr ⟨ob, h⟩
    · exact b.elim
    · cases z
theorem Lk.sqL {K : Fg} {F H : Hp} (s : Lk F H) {a : Addr} {xs : List V} (h : SqL K.fr F a xs) : SqL K.fr H a xs := by
  rcases h with h | h
  · exact .inl (s.rd rfl h)
  · exact .inr h
theorem Lk.none {F H : Hp} (s : Lk F H) {a : Addr} (h : H a = none) : F a = none := by
  cases e : F a with
  | none => rfl
  | some o =>
    rcases s a o e with q | ⟨_, ob, q⟩ | ⟨_, q⟩
    · rw [h] at q; cases q
    · rw [h] at q; cases q
    · exact absurd h q

/-! ### data -/
def kD : Key → D
  | .inl i => .int i
  | .inr x => .str x
/-- a caught exception's object -/
def ExO (a : Addr) (cls : Value) (dd : Option Addr) : HO := .ext fun h => ∃ oe, h.get? a = some oe ∧ Zc cls dd oe ∧ ∃ vs, oe.data = .fields vs
/-- a name of the text's own (a def, a class) as data -/
def fnD (c : Str) : D := .dict [(.bool false, .tuple [.str c])]
/-- an exception as data -/
def excD (c : Str) : Option (Str × D) → D
  | none => .dict [(.bool false, .str c)]
  | some (f, d) => .dict [(.bool false, .str c), (.str f, d)]
mutual
/-- the value v is the data d, all of whose objects stand in F -/
inductive Dt (K : Fg) (F : Hp) : V → D → Prop
  | non : Dt K F .non .none
  | bl (b : Bool) : Dt K F (.bl b) (.bool b)
  | int (i : Int) : Dt K F (.int i) (.int i)
  | str (x : Str) : Dt K F (.str x) (.str x)
  | lst {a : Addr} {xs : List V} {ds : List D} : F a = some (.lst xs) → DtA K F xs ds → Dt K F (.ref a) (.list ds)
  | tup {a : Addr} {xs : List V} {ds : List D} : F a = some (.tup xs) → DtA K F xs ds → Dt K F (.ref a) (.tuple ds)
  | scr {a : Addr} {ns : List Int} : SqL K.fr F a (ns.map V.int) → Dt K F (.ref a) (.dict [(.none, .list (ns.map .int))])
  | dk {a : Addr} {kvs : List (Key × V)} {es : List (D × D)} : F a = some (.dK kvs) → DtK K F kvs es → Dt K F (.ref a) (.dict es)
  | dt {a : Addr} {kvs : List (List Key × V)} {es : List (D × D)} : F a = some (.dT kvs) → DtT K F kvs es → Dt K F (.ref a) (.dict ((.bool true, .none) :: es))
  | exc {a C : Addr} {c : Str} : K.mg c = some (.ref C) → F a = some (ExO a (.ref C) none) → Dt K F (.ref a) (.dict [(.bool false, .str c)])
  | exf {a C dd : Addr} {c f : Str} {v : V} {d : D} : K.mg c = some (.ref C) → F a = some (ExO a (.ref C) (some dd)) → F dd = some (.xd [(f, v)]) → Dt K F v d → Dt K F (.ref a) (.dict [(.bool false, .str c), (.str f, d)])
  | fn {a : Addr} {c : Str} : K.mg c = some (.ref a) → Dt K F (.ref a) (.dict [(.bool false, .tuple [.str c])])
inductive DtA (K : Fg) (F : Hp) : List V → List D → Prop
  | nil : DtA K F [] []
  | cons {v : V} {vs : List V} {d : D} {ds : List D} : Dt K F v d → DtA K F vs ds → DtA K F (v :: vs) (d :: ds)
inductive DtK (K : Fg) (F : Hp) : List (Key × V) → List (D × D) → Prop
  | nil : DtK K F [] []
  | cons {k : Key} {v : V} {vs : List (Key × V)} {d : D} {ds : List (D × D)} : Dt K F v d → DtK K F vs ds → DtK K F ((k, v) :: vs) ((kD k, d) :: ds)
inductive DtT (K : Fg) (F : Hp) : List (List Key × V) → List (D × D) → Prop
  | nil : DtT K F [] []
  | cons {k : List Key} {v : V} {vs : List (List Key × V)} {d : D} {ds : List (D × D)} : Dt K F v d → DtT K F vs ds → DtT K F ((k, v) :: vs) ((.tuple (k.map kD), d) :: ds)
end
theorem Sub.sqL {K : Fg} {F G : Hp} (s : Sub F G) {a : Addr} {xs : List V} (h : SqL K.fr F a xs) : SqL K.fr G a xs := by
  rcases h with h | h
  · rcases h with h | ⟨ob, h⟩
    · exact .inl (.inl (s _ _ h rfl))
    · exact .inl (.inr ⟨ob, s _ _ h rfl⟩)
  · exact .inr h
mutual
theorem Dt.mono {K : Fg} {F G : Hp} (s : Sub F G) : ∀ {v : V} {d : D}, Dt K F v d → Dt K G v d
  | _, _, .non => .non
  | _, _, .bl b => .bl b
  | _, _, .int b => .int b
  | _, _, .str b => .str b
  | _, _, .lst h t => .lst (s _ _ h rfl) (t.mono s)
  | _, _, .tup h t => .tup (s _ _ h rfl) (t.mono s)
  | _, _, .scr h => .scr (s.sqL h)
  | _, _, .dk h t => .dk (s _ _ h rfl) (t.mono s)
  | _, _, .dt h t => .dt (s _ _ h rfl) (t.mono s)
  | _, _, .exc m h => .exc m (s _ _ h rfl)
  | _, _, .exf m h g t => .exf m (s _ _ h rfl) (s _ _ g rfl) (t.mono s)
  | _, _, .fn m => .fn m
theorem DtA.mono {K : Fg} {F G : Hp} (s : Sub F G) : ∀ {v : List V} {d : List D}, DtA K F v d → DtA K G v d
  | _, _, .nil => .nil
  | _, _, .cons h t => .cons (h.mono s) (t.mono s)
theorem DtK.mono {K : Fg} {F G : Hp} (s : Sub F G) : ∀ {v : List (Key × V)} {d : List (D × D)}, DtK K F v d → DtK K G v d
  | _, _, .nil => .nil
  | _, _, .cons h t => .cons (h.mono s) (t.mono s)
theorem DtT.mono {K : Fg} {F G : Hp} (s : Sub F G) : ∀ {v : List (List Key × V)} {d : List (D × D)}, DtT K F v d → DtT K G v d
  | _, _, .nil => .nil
  | _, _, .cons h t => .cons (h.mono s) (t.mono s)
end
theorem DtA.length {K : Fg} {F : Hp} : ∀ {vs : List V} {ds : List D}, DtA K F vs ds → vs.length = ds.length
  | _, _, .nil => rfl
  | _, _, .cons _ t => congrArg Nat.succ t.length
theorem DtA.get {K : Fg} {F : Hp} : ∀ {vs : List V} {ds : List D} {i : Nat} {d : D}, DtA K F vs ds → ds[i]? = some d → ∃ v, vs[i]? = some v ∧ Dt K F v d
  | _, _, _, _, .nil, e => by simp at e
  | _, _, 0, _, .cons h _, e => by simp at e; subst e; exact ⟨_, rfl, h⟩
  | _, _, i + 1, d, .cons _ t, e => by
    obtain ⟨v, h1, h2⟩ := DtA.get (i := i) (d := d) t (by simpa using e)
    exact ⟨v, by simpa using h1, h2⟩
theorem DtA.get' {K : Fg} {F : Hp} : ∀ {vs : List V} {ds : List D} {i : Nat} {v : V}, DtA K F vs ds → vs[i]? = some v → ∃ d, ds[i]? = some d ∧ Dt K F v d
  | _, _, _, _, .nil, e => by simp at e
  | _, _, 0, _, .cons h _, e => by simp at e; subst e; exact ⟨_, rfl, h⟩
  | _, _, i + 1, d, .cons _ t, e => by
    obtain ⟨v, h1, h2⟩ := DtA.get' (i := i) (v := d) t (by simpa using e)
    exact ⟨v, by simpa using h1, h2⟩
theorem DtA.append {K : Fg} {F : Hp} : ∀ {vs ws : List V} {ds es : List D}, DtA K F vs ds → DtA K F ws es → DtA K F (vs ++ ws) (ds ++ es)
  | _, _, _, _, .nil, s => s
  | _, _, _, _, .cons r t, s => .cons r (t.append s)
theorem DtA.take {K : Fg} {F : Hp} : ∀ {vs : List V} {ds : List D} (n : Nat), DtA K F vs ds → DtA K F (vs.take n) (ds.take n)
  | _, _, 0, _ => .nil
  | _, _, _ + 1, .nil => .nil
  | _, _, n + 1, .cons r t => .cons r (t.take n)
theorem DtA.drop {K : Fg} {F : Hp} : ∀ {vs : List V} {ds : List D} (n : Nat), DtA K F vs ds → DtA K F (vs.drop n) (ds.drop n)
  | _, _, 0, r => r
  | _, _, _ + 1, .nil => .nil
  | _, _, n + 1, .cons _ t => t.drop n
theorem DtA.set {K : Fg} {F : Hp} {v : V} {d : D} (r : Dt K F v d) : ∀ {vs : List V} {ds : List D} (i : Nat), DtA K F vs ds → DtA K F (vs.set i v) (ds.set i d)
  | _, _, _, .nil => .nil
  | _, _, 0, .cons _ t => .cons r t
  | _, _, i + 1, .cons q t => .cons q (t.set r i)
theorem DtA.reverse {K : Fg} {F : Hp} : ∀ {vs : List V} {ds : List D}, DtA K F vs ds → DtA K F vs.reverse ds.reverse
  | _, _, .nil => .nil
  | _, _, .cons r t => by
    rw [List.reverse_cons, List.reverse_cons]
    exact t.reverse.append (.cons r .nil)

/-! ### an object that is one's own: its root may change, what it holds stands in F -/
def Own (K : Fg) (F H : Hp) (p : Addr) : D → Prop
  | .list ds => ∃ vs, H p = some (.lst vs) ∧ DtA K F vs ds
  | .dict es => (∃ kvs, H p = some (.dK kvs) ∧ DtK K F kvs es) ∨ ∃ kvs es', es = (.bool true, .none) :: es' ∧ H p = some (.dT kvs) ∧ DtT K F kvs es'
  | _ => False
theorem Own.some {K : Fg} {F H : Hp} {p : Addr} {d : D} (h : Own K F H p d) : ∃ o, H p = some o ∧ Mk o = false := by
  cases d with
  | list ds => obtain ⟨vs, e, _⟩ := h; exact ⟨_, e, rfl⟩
  | dict es => rcases h with ⟨_, e, _⟩ | ⟨_, _, _, e, _⟩ <;> exact ⟨_, e, rfl⟩
  | _ => exact h.elim
theorem Own.notup {K : Fg} {F H : Hp} {p : Addr} {d : D} {xs : List V} (h : Own K F H p d) (e : H p = .some (.tup xs)) : False := by
  cases d with
  | list ds => obtain ⟨vs, e', _⟩ := h; rw [e] at e'; cases e'
  | dict es => rcases h with ⟨_, e', _⟩ | ⟨_, _, _, e', _⟩ <;> (rw [e] at e'; cases e')
  | _ => exact h.elim
theorem Own.mono {K : Fg} {F G H H' : Hp} {p : Addr} {d : D} (h : Own K F H p d) (s : Sub F G) (k : ∀ o, H p = .some o → H' p = .some o) : Own K G H' p d := by
  cases d with
  | list ds => obtain ⟨vs, e, t⟩ := h; exact ⟨vs, k _ e, t.mono s⟩
  | dict es =>
    rcases h with ⟨vs, e, t⟩ | ⟨vs, es', e0, e, t⟩
    · exact .inl ⟨vs, k _ e, t.mono s⟩
    · exact .inr ⟨vs, es', e0, k _ e, t.mono s⟩
  | _ => exact h.elim
/-- it is put to the others -/
theorem Own.froze {K : Fg} {F H : Hp} {p : Addr} {d : D} {o : HO} (h : Own K F H p d) (e : H p = .some o) (n : F p = .none) : Dt K (upd F p o) (.ref p) d := by
  have s : Sub F (upd F p o) := Sub.new n
  cases d with
  | list ds => obtain ⟨vs, e', t⟩ := h; rw [e] at e'; cases e'; exact .lst upd_same (t.mono s)
  | dict es =>
    rcases h with ⟨vs, e', t⟩ | ⟨vs, es', rfl, e', t⟩
    · rw [e] at e'; cases e'; exact .dk upd_same (t.mono s)
    · rw [e] at e'; cases e'; exact .dt upd_same (t.mono s)
  | _ => exact h.elim

/-! ### trees that are one's own: each part may change -/
/-- which parts are one's own: none, a list's (a dict's, a tuple's) root and its parts -/
inductive Sh where
  | fz | ls (s : Sh) | dk (s : Sh) | dt (s : Sh) | tp (r : Sh) | ob (C : Addr) (r : Sh) | nl | cn (f : Str) (s r : Sh)
  deriving DecidableEq
abbrev Nodes := List (Addr × HO)
/-- an instance, as data -/
def insD (es : List (D × D)) : D := .dict ((.bool false, .none) :: es)
mutual
inductive Tr (K : Fg) (F : Hp) : Sh → V → D → Nodes → Prop
  | fz {v : V} {d : D} : Dt K F v d → Tr K F .fz v d []
  | ls {s : Sh} {p : Addr} {vs : List V} {ds : List D} {L : Nodes} : TrA K F s vs ds L → Tr K F (.ls s) (.ref p) (.list ds) ((p, .lst vs) :: L)
  | dk {s : Sh} {p : Addr} {kvs : List (Key × V)} {es : List (D × D)} {L : Nodes} : TrK K F s kvs es L → Tr K F (.dk s) (.ref p) (.dict es) ((p, .dK kvs) :: L)
  | dt {s : Sh} {p : Addr} {kvs : List (List Key × V)} {es : List (D × D)} {L : Nodes} : TrT K F s kvs es L → Tr K F (.dt s) (.ref p) (.dict ((.bool true, .none) :: es)) ((p, .dT kvs) :: L)
  | tp {r : Sh} {p : Addr} {vs : List V} {ds : List D} {L : Nodes} : TrP K F r vs ds L → Tr K F (.tp r) (.ref p) (.tuple ds) ((p, .tup vs) :: L)
  | ob {C : Addr} {r : Sh} {p dx : Addr} {fs : List (Str × V)} {es : List (D × D)} {L : Nodes} : TrO K F r fs es L → Tr K F (.ob C r) (.ref p) (insD es) ((p, .ins C dx fs) :: (dx, .own p) :: L)
inductive TrA (K : Fg) (F : Hp) : Sh → List V → List D → Nodes → Prop
  | nil {s : Sh} : TrA K F s [] [] []
  | cons {s : Sh} {v : V} {vs : List V} {d : D} {ds : List D} {L M : Nodes} : Tr K F s v d L → TrA K F s vs ds M → TrA K F s (v :: vs) (d :: ds) (L ++ M)
inductive TrK (K : Fg) (F : Hp) : Sh → List (Key × V) → List (D × D) → Nodes → Prop
  | nil {s : Sh} : TrK K F s [] [] []
  | cons {s : Sh} {k : Key} {v : V} {vs : List (Key × V)} {d : D} {ds : List (D × D)} {L M : Nodes} : Tr K F s v d L → TrK K F s vs ds M → TrK K F s ((k, v) :: vs) ((kD k, d) :: ds) (L ++ M)
inductive TrT (K : Fg) (F : Hp) : Sh → List (List Key × V) → List (D × D) → Nodes → Prop
  | nil {s : Sh} : TrT K F s [] [] []
  | cons {s : Sh} {k : List Key} {v : V} {vs : List (List Key × V)} {d : D} {ds : List (D × D)} {L M : Nodes} : Tr K F s v d L → TrT K F s vs ds M → TrT K F s ((k, v) :: vs) ((.tuple (k.map kD), d) :: ds) (L ++ M)
inductive TrP (K : Fg) (F : Hp) : Sh → List V → List D → Nodes → Prop
  | nil : TrP K F .nl [] [] []
  | cons {f : Str} {s r : Sh} {v : V} {vs : List V} {d : D} {ds : List D} {L M : Nodes} : Tr K F s v d L → TrP K F r vs ds M → TrP K F (.cn f s r) (v :: vs) (d :: ds) (L ++ M)
inductive TrO (K : Fg) (F : Hp) : Sh → List (Str × V) → List (D × D) → Nodes → Prop
  | nil : TrO K F .nl [] [] []
  | cons {f : Str} {s r : Sh} {v : V} {vs : List (Str × V)} {d : D} {ds : List (D × D)} {L M : Nodes} : Tr K F s v d L → TrO K F r vs ds M → TrO K F (.cn f s r) ((f, v) :: vs) ((.str f, d) :: ds) (L ++ M)
end
mutual
theorem Tr.mono {K : Fg} {F G : Hp} (z : Sub F G) : ∀ {s : Sh} {v : V} {d : D} {L : Nodes}, Tr K F s v d L → Tr K G s v d L
  | _, _, _, _, .fz h => .fz (h.mono z)
  | _, _, _, _, .ls h => .ls (h.mono z)
  | _, _, _, _, .dk h => .dk (h.mono z)
  | _, _, _, _, .dt h => .dt (h.mono z)
  | _, _, _, _, .tp h => .tp (h.mono z)
  | _, _, _, _, .ob h => .ob (h.mono z)
theorem TrA.mono {K : Fg} {F G : Hp} (z : Sub F G) : ∀ {s : Sh} {v : List V} {d : List D} {L : Nodes}, TrA K F s v d L → TrA K G s v d L
  | _, _, _, _, .nil => .nil
  | _, _, _, _, .cons h t => .cons (h.mono z) (t.mono z)
theorem TrK.mono {K : Fg} {F G : Hp} (z : Sub F G) : ∀ {s : Sh} {v : List (Key × V)} {d : List (D × D)} {L : Nodes}, TrK K F s v d L → TrK K G s v d L
  | _, _, _, _, .nil => .nil
  | _, _, _, _, .cons h t => .cons (h.mono z) (t.mono z)
theorem TrT.mono {K : Fg} {F G : Hp} (z : Sub F G) : ∀ {s : Sh} {v : List (List Key × V)} {d : List (D × D)} {L : Nodes}, TrT K F s v d L → TrT K G s v d L
  | _, _, _, _, .nil => .nil
  | _, _, _, _, .cons h t => .cons (h.mono z) (t.mono z)
theorem TrP.mono {K : Fg} {F G : Hp} (z : Sub F G) : ∀ {s : Sh} {v : List V} {d : List D} {L : Nodes}, TrP K F s v d L → TrP K G s v d L
  | _, _, _, _, .nil => .nil
  | _, _, _, _, .cons h t => .cons (h.mono z) (t.mono z)
theorem TrO.mono {K : Fg} {F G : Hp} (z : Sub F G) : ∀ {s : Sh} {v : List (Str × V)} {d : List (D × D)} {L : Nodes}, TrO K F s v d L → TrO K G s v d L
  | _, _, _, _, .nil => .nil
  | _, _, _, _, .cons h t => .cons (h.mono z) (t.mono z)
end
/-- no instance in it (what may be put to the others) -/
def Sh.flat : Sh → Bool
  | .fz => true
  | .ls s => s.flat
  | .dk s => s.flat
  | .dt s => s.flat
  | .tp r => r.flat
  | .ob _ _ => false
  | .nl => true
  | .cn _ s r => s.flat && r.flat
mutual
/-- the tree is put to the others -/
theorem Tr.froze {K : Fg} {F G : Hp} (z : Sub F G) : ∀ {s : Sh} {v : V} {d : D} {L : Nodes}, Tr K F s v d L → s.flat = true → (∀ q ∈ L, G q.1 = some q.2) → Dt K G v d
  | _, _, _, _, .fz h, _, _ => h.mono z
  | _, _, _, _, .ls h, f, g => .lst (g _ List.mem_cons_self) (h.froze z f fun q hq => g q (List.mem_cons_of_mem _ hq))
  | _, _, _, _, .dk h, f, g => .dk (g _ List.mem_cons_self) (h.froze z f fun q hq => g q (List.mem_cons_of_mem _ hq))
  | _, _, _, _, .dt h, f, g => .dt (g _ List.mem_cons_self) (h.froze z f fun q hq => g q (List.mem_cons_of_mem _ hq))
  | _, _, _, _, .tp h, f, g => .tup (g _ List.mem_cons_self) (h.froze z f fun q hq => g q (List.mem_cons_of_mem _ hq))
  | _, _, _, _, .ob h, f, g => nomatch f
theorem TrA.froze {K : Fg} {F G : Hp} (z : Sub F G) : ∀ {s : Sh} {v : List V} {d : List D} {L : Nodes}, TrA K F s v d L → s.flat = true → (∀ q ∈ L, G q.1 = some q.2) → DtA K G v d
  | _, _, _, _, .nil, _, _ => .nil
  | _, _, _, _, .cons h t, f, g => .cons (h.froze z f fun q hq => g q (List.mem_append_left _ hq)) (t.froze z f fun q hq => g q (List.mem_append_right _ hq))
theorem TrK.froze {K : Fg} {F G : Hp} (z : Sub F G) : ∀ {s : Sh} {v : List (Key × V)} {d : List (D × D)} {L : Nodes}, TrK K F s v d L → s.flat = true → (∀ q ∈ L, G q.1 = some q.2) → DtK K G v d
  | _, _, _, _, .nil, _, _ => .nil
  | _, _, _, _, .cons h t, f, g => .cons (h.froze z f fun q hq => g q (List.mem_append_left _ hq)) (t.froze z f fun q hq => g q (List.mem_append_right _ hq))
theorem TrT.froze {K : Fg} {F G : Hp} (z : Sub F G) : ∀ {s : Sh} {v : List (List Key × V)} {d : List (D × D)} {L : Nodes}, TrT K F s v d L → s.flat = true → (∀ q ∈ L, G q.1 = some q.2) → DtT K G v d
  | _, _, _, _, .nil, _, _ => .nil
  | _, _, _, _, .cons h t, f, g => .cons (h.froze z f fun q hq => g q (List.mem_append_left _ hq)) (t.froze z f fun q hq => g q (List.mem_append_right _ hq))
theorem TrP.froze {K : Fg} {F G : Hp} (z : Sub F G) : ∀ {s : Sh} {v : List V} {d : List D} {L : Nodes}, TrP K F s v d L → s.flat = true → (∀ q ∈ L, G q.1 = some q.2) → DtA K G v d
  | _, _, _, _, .nil, _, _ => .nil
  | _, _, _, _, .cons h t, f, g => by
    have f := Bool.and_eq_true_iff.mp f
    exact .cons (h.froze z f.1 fun q hq => g q (List.mem_append_left _ hq)) (t.froze z f.2 fun q hq => g q (List.mem_append_right _ hq))
end
/-- what stands at a node -/
def Nf (o : HO) : Prop := Mk o = false ∧ ∀ ob u, o ≠ .frz ob u
def AllNf (L : Nodes) : Prop := ∀ q ∈ L, Nf q.2
theorem AllNf.nil : AllNf [] := fun _ h => nomatch h
theorem AllNf.cons {p : Addr} {o : HO} {L : Nodes} (h : Nf o) (t : AllNf L) : AllNf ((p, o) :: L) := fun q hq => by
  rcases List.mem_cons.mp hq with rfl | hq
  · exact h
  · exact t q hq
theorem AllNf.app {L M : Nodes} (h : AllNf L) (t : AllNf M) : AllNf (L ++ M) := fun q hq => (List.mem_append.mp hq).elim (h q) (t q)
theorem Tr.nf {K : Fg} {F : Hp} {s : Sh} {v : V} {d : D} {L : Nodes} (h : Tr K F s v d L) : s.flat = true → AllNf L := by
  refine Tr.rec (motive_1 := fun s _ _ L _ => s.flat = true → AllNf L) (motive_2 := fun s _ _ L _ => s.flat = true → AllNf L) (motive_3 := fun s _ _ L _ => s.flat = true → AllNf L) (motive_4 := fun s _ _ L _ => s.flat = true → AllNf L)
    (motive_5 := fun s _ _ L _ => s.flat = true → AllNf L) (motive_6 := fun _ _ _ _ _ => True) ?_ ?_ ?_ ?_ ?_ ?_ ?_ ?_ ?_ ?_ ?_ ?_ ?_ ?_ ?_ ?_ h
  · exact fun _ _ => AllNf.nil
  · exact fun _ ih f => AllNf.cons ⟨rfl, fun _ _ h => by cases h⟩ (ih f)
  · exact fun _ ih f => AllNf.cons ⟨rfl, fun _ _ h => by cases h⟩ (ih f)
  · exact fun _ ih f => AllNf.cons ⟨rfl, fun _ _ h => by cases h⟩ (ih f)
  · exact fun _ ih f => AllNf.cons ⟨rfl, fun _ _ h => by cases h⟩ (ih f)
  · exact fun _ _ f => Bool.noConfusion f
  · exact fun _ => AllNf.nil
  · exact fun _ _ ih1 ih2 f => (ih1 f).app (ih2 f)
  · exact fun _ => AllNf.nil
  · exact fun _ _ ih1 ih2 f => (ih1 f).app (ih2 f)
  · exact fun _ => AllNf.nil
  · exact fun _ _ ih1 ih2 f => (ih1 f).app (ih2 f)
  · exact fun _ => AllNf.nil
  · exact fun _ _ ih1 ih2 f => (ih1 (Bool.and_eq_true_iff.mp f).1).app (ih2 (Bool.and_eq_true_iff.mp f).2)
  · trivial
  · intros; trivial
def AllNz (L : Nodes) : Prop := ∀ q ∈ L, ∀ ob u, q.2 ≠ .frz ob u
theorem AllNz.nil : AllNz [] := fun _ h => nomatch h
theorem AllNz.cons {p : Addr} {o : HO} {L : Nodes} (h : ∀ ob u, o ≠ .frz ob u) (t : AllNz L) : AllNz ((p, o) :: L) := fun q hq => by
  rcases List.mem_cons.mp hq with rfl | hq
  · exact h
  · exact t q hq
theorem AllNz.app {L M : Nodes} (h : AllNz L) (t : AllNz M) : AllNz (L ++ M) := fun q hq => (List.mem_append.mp hq).elim (h q) (t q)
theorem Tr.nz {K : Fg} {F : Hp} {s : Sh} {v : V} {d : D} {L : Nodes} (h : Tr K F s v d L) : AllNz L := by
  refine Tr.rec (motive_1 := fun s _ _ L _ => AllNz L) (motive_2 := fun s _ _ L _ => AllNz L) (motive_3 := fun s _ _ L _ => AllNz L) (motive_4 := fun s _ _ L _ => AllNz L)
    (motive_5 := fun s _ _ L _ => AllNz L) (motive_6 := fun _ _ _ L _ => AllNz L) ?_ ?_ ?_ ?_ ?_ ?_ ?_ ?_ ?_ ?_ ?_ ?_ ?_ ?_ ?_ ?_ h
  · exact fun _ => AllNz.nil
  · exact fun _ ih => AllNz.cons (fun _ _ h => by cases h) ih
  · exact fun _ ih => AllNz.cons (fun _ _ h => by cases h) ih
  · exact fun _ ih => AllNz.cons (fun _ _ h => by cases h) ih
  · exact fun _ ih => AllNz.cons (fun _ _ h => by cases h) ih
  · exact fun _ ih => AllNz.cons (fun _ _ h => by cases h) (AllNz.cons (fun _ _ h => by cases h) ih)
  · exact AllNz.nil
  · exact fun _ _ ih1 ih2 => ih1.app ih2
  · exact AllNz.nil
  · exact fun _ _ ih1 ih2 => ih1.app ih2
  · exact AllNz.nil
  · exact fun _ _ ih1 ih2 => ih1.app ih2
  · exact AllNz.nil
  · exact fun _ _ ih1 ih2 => ih1.app ih2
  · exact AllNz.nil
  · exact fun _ _ ih1 ih2 => ih1.app ih2
/-- what the tables' making leaves alone -/
def TC : HO → Prop
  | .tbl _ => True
  | .ext _ => True
  | _ => False
def AllNc (L : Nodes) : Prop := ∀ q ∈ L, ¬ TC q.2
theorem AllNc.nil : AllNc [] := fun _ h => nomatch h
theorem AllNc.cons {p : Addr} {o : HO} {L : Nodes} (h : ¬ TC o) (t : AllNc L) : AllNc ((p, o) :: L) := fun q hq => by
  rcases List.mem_cons.mp hq with rfl | hq
  · exact h
  · exact t q hq
theorem AllNc.app {L M : Nodes} (h : AllNc L) (t : AllNc M) : AllNc (L ++ M) := fun q hq => (List.mem_append.mp hq).elim (h q) (t q)
theorem Tr.ntc {K : Fg} {F : Hp} {s : Sh} {v : V} {d : D} {L : Nodes} (h : Tr K F s v d L) : AllNc L := by
  refine Tr.rec (motive_1 := fun s _ _ L _ => AllNc L) (motive_2 := fun s _ _ L _ => AllNc L) (motive_3 := fun s _ _ L _ => AllNc L) (motive_4 := fun s _ _ L _ => AllNc L)
    (motive_5 := fun s _ _ L _ => AllNc L) (motive_6 := fun _ _ _ L _ => AllNc L) ?_ ?_ ?_ ?_ ?_ ?_ ?_ ?_ ?_ ?_ ?_ ?_ ?_ ?_ ?_ ?_ h
  · exact fun _ => AllNc.nil
  · exact fun _ ih => AllNc.cons (fun z => z) ih
  · exact fun _ ih => AllNc.cons (fun z => z) ih
  · exact fun _ ih => AllNc.cons (fun z => z) ih
  · exact fun _ ih => AllNc.cons (fun z => z) ih
  · exact fun _ ih => AllNc.cons (fun z => z) (AllNc.cons (fun z => z) ih)
  · exact AllNc.nil
  · exact fun _ _ ih1 ih2 => ih1.app ih2
  · exact AllNc.nil
  · exact fun _ _ ih1 ih2 => ih1.app ih2
  · exact AllNc.nil
  · exact fun _ _ ih1 ih2 => ih1.app ih2
  · exact AllNc.nil
  · exact fun _ _ ih1 ih2 => ih1.app ih2
  · exact AllNc.nil
  · exact fun _ _ ih1 ih2 => ih1.app ih2
def Ndp (L : Nodes) : Prop := (L.map (·.1)).Nodup

/-! ### the names' values -/
inductive Sv where
  | un | fz (d : D) | ow (d : D) | pw (d : D) | tr (s : Sh) (d : D) | tw (s : Sh) (d : D)
abbrev En := List Sv
/-- what was so at the entry; the objects that the caller gave to be changed, by slot; what is locked; what is held meanwhile -/
structure Bs where
  F0 : Hp
  H0 : Hp
  M : List (Nat × Addr)
  L : List (Addr × Obj × HO)
  X : List (Addr × HO)
  G : Addr → Prop
def IsOw (env : En) (i : Nat) (d : D) : Prop := env[i]? = some (.ow d) ∨ env[i]? = some (.pw d)
/-- tuples of keys alone are all among the others -/
def KT (F H : Hp) : Prop := ∀ a (ks : List Key), H a = some (.tup (ks.map kV)) → F a = some (.tup (ks.map kV))
def IsTr (env : En) (i : Nat) (s : Sh) (d : D) : Prop := env[i]? = some (.tr s d) ∨ env[i]? = some (.tw s d)
theorem tabs_step {T : TbT} {H H' : Hp} (t : LamX.Tabs T H) (k : ∀ b o, H b = some o → TC o → H' b = some o) : LamX.Tabs T H' := fun p hp => by
  obtain ⟨ps, h1, h2, h3⟩ := t p hp
  refine ⟨ps, k _ _ h1 trivial, h2, fun pos cv hc => ?_⟩
  obtain ⟨c, e1, e2⟩ := h3 pos cv hc
  exact ⟨c, e1, k _ _ e2 trivial⟩
theorem tabs_new {T : TbT} {H : Hp} {p : Addr} {o : HO} (t : LamX.Tabs T H) (n : H p = none) : LamX.Tabs T (upd H p o) := tabs_step t fun b u h _ => by
  rw [upd_ne (ne_of_none h n)]; exact h
theorem tabs_chg {T : TbT} {H : Hp} {p : Addr} {o o' : HO} (t : LamX.Tabs T H) (h : H p = some o') (n : ¬ TC o') : LamX.Tabs T (upd H p o) := tabs_step t fun b u h' c => by
  have ne : b ≠ p := fun z => by
    subst z
    rw [h] at h'; cases h'
    exact n c
  rw [upd_ne ne]; exact h'
/-- an address of a table -/
def Kg.tb (K : Fg) (p : Addr) : Prop := ∃ u, (p, u) ∈ K.T
theorem tabs_at {K : Fg} {H : Hp} {p : Addr} (t : LamX.Tabs K.T H) (h : K.tb p) : ∃ ps, H p = some (.tbl ps) := by
  obtain ⟨u, h⟩ := h
  obtain ⟨ps, e, _⟩ := t _ h
  exact ⟨ps, e⟩
/-- the tables, now and at the entry -/
structure TbB (K : Fg) (B : Bs) (H : Hp) : Prop where
  now : LamX.Tabs K.T H
  at0 : LamX.Tabs K.T B.H0
  nf : ∀ q, K.tb q → B.F0 q = none ∧ B.G q
structure Sl (K : Fg) (B : Bs) (F H : Hp) (σ : L2.St) (env : En) : Prop where
  fh : Lk F H
  len : env.length = σ.length
  fz : ∀ (i : Nat) (d : D), env[i]? = some (Sv.fz d) → ∃ v, σ[i]? = some (some v) ∧ Dt K F v d
  own : ∀ (i : Nat) (d : D), IsOw env i d → ∃ p, σ[i]? = some (some (.ref p)) ∧ F p = none ∧ Own K F H p d ∧ (B.H0 p = none ∨ ∃ j, (j, p) ∈ B.M)
  ap : ∀ (i j : Nat) (d e : D) (p : Addr), IsOw env i d → IsOw env j e → σ[i]? = some (some (.ref p)) → σ[j]? = some (some (.ref p)) → i = j
  pm : ∀ q ∈ B.M, (∃ d : D, env[q.1]? = some (Sv.pw d)) ∧ σ[q.1]? = some (some (.ref q.2))
  f0 : Sub B.F0 F
  nw : ∀ p, B.F0 p = none → F p ≠ none → B.H0 p = none
  kp : ∀ p o, B.H0 p = some o → (∀ j, (j, p) ∉ B.M) → (∀ u, (p, u) ∉ B.L) → ¬ B.G p → H p = some o
  lc : ∀ q ∈ B.L, H q.1 = some (.frz q.2.1 q.2.2) ∧ F q.1 = some q.2.2
  hx : ∀ q ∈ B.X, H q.1 = some q.2 ∧ F q.1 = none ∧ B.H0 q.1 = none ∧ ∀ (i : Nat) (d : D), IsOw env i d → σ[i]? ≠ some (some (.ref q.1))
  lk : ∀ a ob u, F a = some u → H a = some (.frz ob u) → (a, ob, u) ∈ B.L ∨ (B.H0 a = some (.frz ob u) ∧ (∀ j, (j, a) ∉ B.M) ∧ (∀ w, (a, w) ∉ B.L) ∧ ¬ B.G a)
  tr : ∀ (i : Nat) (s : Sh) (d : D), IsTr env i s d → ∃ v L, σ[i]? = some (some v) ∧ Tr K F s v d L ∧ Ndp L ∧ ∀ q ∈ L, H q.1 = some q.2 ∧ F q.1 = some (.own i)
  mr : ∀ a m, F a = some (.own m) → B.H0 a = none ∨ B.G a
  gv : ∀ a, B.G a → H a ≠ none ∧ B.H0 a ≠ none ∧ (B.F0 a ≠ none ∨ K.tb a)
  kt : KT F H
  tb : TbB K B H
theorem frz_ne {o : HO} {ob : Obj} : o ≠ .frz ob o := fun h => by
  have := congrArg sizeOf h
  simp only [HO.frz.sizeOf_spec] at this
  omega
section
variable {K : Fg} {B : Bs} {F H : Hp} {σ : L2.St} {env : En}
theorem Sl.tbF (S : Sl K B F H σ env) {a : Addr} (h : K.tb a) : F a = none := by
  cases e : F a with
  | none => rfl
  | some u =>
    have n0 := S.nw a (S.tb.nf a h).1 (by rw [e]; exact fun z => nomatch z)
    obtain ⟨ps, q⟩ := tabs_at S.tb.at0 h
    rw [n0] at q; cases q
theorem Sl.ntF (S : Sl K B F H σ env) {a : Addr} {u : HO} (h : F a = some u) : ¬ K.tb a := fun z => by
  rw [S.tbF z] at h; cases h
theorem Sl.nt0 (S : Sl K B F H σ env) {a : Addr} (h : B.H0 a = none) : ¬ K.tb a := fun z => by
  obtain ⟨ps, q⟩ := tabs_at S.tb.at0 z
  rw [h] at q; cases q
theorem Sl.ntO (S : Sl K B F H σ env) {a : Addr} {o : HO} (h : H a = some o) (n : ¬ TC o) : ¬ K.tb a := fun z => by
  obtain ⟨ps, q⟩ := tabs_at S.tb.now z
  rw [h] at q; cases q
  exact n trivial
theorem Own.ntc {K : Fg} {F H : Hp} {p : Addr} {d : D} {o : HO} (h : Own K F H p d) (e : H p = Option.some o) : ¬ TC o := by
  cases d with
  | list ds => obtain ⟨vs, e', _⟩ := h; rw [e] at e'; cases e'; exact fun z => z
  | dict es => rcases h with ⟨_, e', _⟩ | ⟨_, _, _, e', _⟩ <;> (rw [e] at e'; cases e'; exact fun z => z)
  | _ => exact h.elim
/-- what is new now is new since the entry -/
theorem Sl.fresh (S : Sl K B F H σ env) {p : Addr} (n : H p = none) : B.H0 p = none := by
  cases e : B.H0 p with
  | none => rfl
  | some u =>
    exfalso
    by_cases hm : ∃ j, (j, p) ∈ B.M
    · obtain ⟨j, hj⟩ := hm
      obtain ⟨⟨d, hd⟩, hs⟩ := S.pm (j, p) hj
      obtain ⟨q', e1, _, e3, _⟩ := S.own j d (.inr hd)
      rw [hs] at e1; cases e1
      obtain ⟨w, hw, _⟩ := e3.some
      rw [n] at hw; cases hw
    · by_cases hl : ∃ u', (p, u') ∈ B.L
      · obtain ⟨u', hl⟩ := hl
        have h9 : H p = _ := (S.lc _ hl).1
        rw [n] at h9; cases h9
      · by_cases hg : B.G p
        · exact (S.gv p hg).1 n
        · have := S.kp p u e (fun j hj => hm ⟨j, hj⟩) (fun u' hu => hl ⟨u', hu⟩) hg
          rw [n] at this; cases this
theorem Sl.neOw (S : Sl K B F H σ env) {p : Addr} (n : H p = none) {i : Nat} {d : D} (o : IsOw env i d) : σ[i]? ≠ some (some (.ref p)) := fun e => by
  obtain ⟨q, e1, _, e3, _⟩ := S.own i d o
  rw [e] at e1; cases e1
  obtain ⟨w, hw, _⟩ := e3.some
  rw [n] at hw; cases hw
/-- a new object is laid -/
theorem Sl.laid (S : Sl K B F H σ env) {p : Addr} {o : HO} (n : H p = none) (no : ∀ ks : List Key, o ≠ .tup (ks.map kV) := by intro ks h; cases h) : Sl K B F (upd H p o) σ env := by
  refine ⟨fun a u e => ?_, S.len, S.fz, fun i d e => ?_, S.ap, S.pm, S.f0, S.nw, fun q u h1 h2 h3 h9 => ?_, fun q hq => ?_, fun q hq => ?_, fun a ob u e h => S.lk a ob u e (by
    have ne : a ≠ p := by
      rintro rfl
      rw [S.fh.none n] at e; cases e
    rw [upd_ne ne] at h; exact h), fun i s d e => ?_, S.mr, fun a g => ⟨by
      have := (S.gv a g).1
      by_cases z : a = p
      · subst z; exact absurd n this
      · rw [upd_ne z]; exact this, (S.gv a g).2⟩, fun a ks h => by
      by_cases z : a = p
      · subst z; rw [upd_same] at h; exact absurd (Option.some.inj h) (no ks)
      · rw [upd_ne z] at h; exact S.kt a ks h, ⟨tabs_new S.tb.now n, S.tb.at0, S.tb.nf⟩⟩
  rotate_right
  · obtain ⟨v, L, h1, h2, h3, h4⟩ := S.tr i s d e
    exact ⟨v, L, h1, h2, h3, fun q hq => ⟨by rw [upd_ne (ne_of_none (h4 q hq).1 n)]; exact (h4 q hq).1, (h4 q hq).2⟩⟩
  · have ne : a ≠ p := by
      rintro rfl
      rw [S.fh.none n] at e; cases e
    rw [upd_ne ne]; exact S.fh a u e
  · obtain ⟨q, h1, h2, h3, h4⟩ := S.own i d e
    have ne : q ≠ p := by
      rintro rfl
      exact S.neOw n e h1
    exact ⟨q, h1, h2, h3.mono (Sub.refl _) fun u hu => by rw [upd_ne ne]; exact hu, h4⟩
  · have := S.kp q u h1 h2 h3 h9
    rw [upd_ne (ne_of_none this n)]
    exact this
  · obtain ⟨g1, g2⟩ := S.lc q hq
    exact ⟨by rw [upd_ne (ne_of_none g1 n)]; exact g1, g2⟩
  · obtain ⟨g1, g2⟩ := S.hx q hq
    exact ⟨by rw [upd_ne (ne_of_none g1 n)]; exact g1, g2⟩
/-- an object of nobody is put to the others -/
theorem Sl.froze (S : Sl K B F H σ env) {p : Addr} {o : HO} (h : H p = some o) (n : F p = none) (n0 : B.H0 p = none) (no : ∀ i d, IsOw env i d → σ[i]? ≠ some (some (.ref p))) (nx : ∀ q ∈ B.X, q.1 ≠ p) (mo : Mk o = false) : Sl K B (upd F p o) H σ env := by
  have s : Sub F (upd F p o) := Sub.new n
  refine ⟨fun a u e => ?_, S.len, fun i d e => ?_, fun i d e => ?_, S.ap, S.pm, S.f0.trans s, fun q h1 h2 => ?_, S.kp, fun q hq => ⟨(S.lc q hq).1, by
      have ne : q.1 ≠ p := fun z => by have := (S.lc q hq).2; rw [z, n] at this; cases this
      rw [upd_ne ne]; exact (S.lc q hq).2⟩, fun q hq => ?_, fun a ob u e h' => by
    by_cases ha : a = p
    · subst ha; rw [upd_same] at e; cases e; rw [h] at h'; exact absurd (Option.some.inj h') frz_ne
    · rw [upd_ne ha] at e; exact S.lk a ob u e h', fun i s' d e => by
      obtain ⟨v, L, h1, h2, h3, h4⟩ := S.tr i s' d e
      refine ⟨v, L, h1, h2.mono s, h3, fun q hq => ⟨(h4 q hq).1, ?_⟩⟩
      rw [upd_ne (ne_of_none (h4 q hq).2 n)]; exact (h4 q hq).2, fun a m e => by
      by_cases ha : a = p
      · subst ha; rw [upd_same] at e; cases e; cases mo
      · rw [upd_ne ha] at e; exact S.mr a m e, S.gv, fun a ks h' => by
      by_cases ha : a = p
      · subst ha; rw [upd_same, ← h']; exact h.symm
      · rw [upd_ne ha]; exact S.kt a ks h', S.tb⟩
  · by_cases ha : a = p
    · subst ha; rw [upd_same] at e; cases e; exact .inl h
    · rw [upd_ne ha] at e; exact S.fh a u e
  · obtain ⟨v, h1, h2⟩ := S.fz i d e
    exact ⟨v, h1, h2.mono s⟩
  · obtain ⟨q, h1, h2, h3, h4⟩ := S.own i d e
    have ne : q ≠ p := by
      rintro rfl
      exact no i d e h1
    exact ⟨q, h1, by rw [upd_ne ne]; exact h2, h3.mono s fun u hu => hu, h4⟩
  · by_cases ha : q = p
    · subst ha; exact n0
    · rw [upd_ne ha] at h2; exact S.nw q h1 h2
  · obtain ⟨g1, g2, g3⟩ := S.hx q hq
    exact ⟨g1, by rw [upd_ne (nx q hq)]; exact g2, g3⟩
theorem Sl.neX (S : Sl K B F H σ env) {p : Addr} (n : H p = none) : ∀ q ∈ B.X, q.1 ≠ p := fun q hq => ne_of_none (S.hx q hq).1 n
/-- a new object, put to the others at once -/
theorem Sl.new (S : Sl K B F H σ env) {p : Addr} {o : HO} (n : H p = none) (mo : Mk o = false := by rfl) : Sl K B (upd F p o) (upd H p o) σ env := by
  have nF := S.fh.none n
  have s : Sub F (upd F p o) := Sub.new nF
  refine ⟨fun a u e => ?_, S.len, fun i d e => ?_, fun i d e => ?_, S.ap, S.pm, S.f0.trans s, fun q h1 h2 => ?_, fun q u h1 h2 h3 h9 => ?_, fun q hq => ?_, fun q hq => ?_, fun a ob u e h => ?_, fun i s' d e => ?_, fun a m e => ?_, fun a g => ⟨?_, (S.gv a g).2⟩, fun a ks h => ?_, ⟨tabs_new S.tb.now n, S.tb.at0, S.tb.nf⟩⟩
  · by_cases ha : a = p
    · subst ha; rw [upd_same] at e; cases e; exact .inl upd_same
    · rw [upd_ne ha] at e
      rw [upd_ne ha]; exact S.fh a u e
  · obtain ⟨v, h1, h2⟩ := S.fz i d e
    exact ⟨v, h1, h2.mono s⟩
  · obtain ⟨q, h1, h2, h3, h4⟩ := S.own i d e
    have ne : q ≠ p := by
      rintro rfl
      exact S.neOw n e h1
    exact ⟨q, h1, by rw [upd_ne ne]; exact h2, h3.mono s fun u hu => by rw [upd_ne ne]; exact hu, h4⟩
  · by_cases ha : q = p
    · subst ha; exact S.fresh n
    · rw [upd_ne ha] at h2; exact S.nw q h1 h2
  · have := S.kp q u h1 h2 h3 h9
    rw [upd_ne (ne_of_none this n)]
    exact this
  · obtain ⟨g1, g2⟩ := S.lc q hq
    exact ⟨by rw [upd_ne (ne_of_none g1 n)]; exact g1, by rw [upd_ne (ne_of_none g1 n)]; exact g2⟩
  · obtain ⟨g1, g2, g3⟩ := S.hx q hq
    exact ⟨by rw [upd_ne (ne_of_none g1 n)]; exact g1, by rw [upd_ne (ne_of_none g1 n)]; exact g2, g3⟩
  · by_cases ha : a = p
    · subst ha; rw [upd_same] at e h; cases e; exact absurd (Option.some.inj h) frz_ne
    · rw [upd_ne ha] at e h; exact S.lk a ob u e h
  · obtain ⟨v, L, h1, h2, h3, h4⟩ := S.tr i s' d e
    refine ⟨v, L, h1, h2.mono s, h3, fun q hq => ?_⟩
    have ne := ne_of_none (h4 q hq).1 n
    exact ⟨by rw [upd_ne ne]; exact (h4 q hq).1, by rw [upd_ne ne]; exact (h4 q hq).2⟩
  · by_cases ha : a = p
    · subst ha; rw [upd_same] at e; cases e; cases mo
    · rw [upd_ne ha] at e; exact S.mr a m e
  · by_cases ha : a = p
    · subst ha; rw [upd_same]; exact fun z => nomatch z
    · rw [upd_ne ha]; exact (S.gv a g).1
  · by_cases ha : a = p
    · subst ha; rw [upd_same] at h ⊢; exact h
    · rw [upd_ne ha] at h ⊢; exact S.kt a ks h
theorem Sl.subNew (S : Sl K B F H σ env) {p : Addr} {o : HO} (n : H p = none) : Sub F (upd F p o) := Sub.new (S.fh.none n)
/-- a name's own object is put to the others -/
theorem Sl.frozeAt (S : Sl K B F H σ env) {i : Nat} {d : D} (e : env[i]? = some (.ow d)) : ∃ p o, σ[i]? = some (some (.ref p)) ∧ Sub F (upd F p o) ∧ Dt K (upd F p o) (.ref p) d ∧ Sl K B (upd F p o) H σ (env.set i (.fz d)) := by
  obtain ⟨p, h1, h2, h3, h4⟩ := S.own i d (.inl e)
  obtain ⟨o, ho, hb⟩ := h3.some
  have s : Sub F (upd F p o) := Sub.new h2
  have hd := h3.froze ho h2
  have hi : i < env.length := (List.getElem?_eq_some_iff.mp e).1
  have other : ∀ {j : Nat} {x : Sv}, (env.set i (.fz d))[j]? = some x → (j = i ∧ x = .fz d) ∨ (j ≠ i ∧ env[j]? = some x) := fun {j x} q => by
    by_cases hj : j = i
    · subst hj
      rw [List.getElem?_set_self hi] at q
      cases q
      exact .inl ⟨rfl, rfl⟩
    · rw [List.getElem?_set_ne (Ne.symm hj)] at q
      exact .inr ⟨hj, q⟩
  have ow' : ∀ {j : Nat} {x : D}, IsOw (env.set i (.fz d)) j x → j ≠ i ∧ IsOw env j x := fun {j x} q => by
    rcases q with q | q
    · rcases other q with ⟨_, z⟩ | ⟨a, b⟩
      · cases z
      · exact ⟨a, .inl b⟩
    · rcases other q with ⟨_, z⟩ | ⟨a, b⟩
      · cases z
      · exact ⟨a, .inr b⟩
  have n0 : B.H0 p = none := by
    rcases h4 with h4 | ⟨j, hj⟩
    · exact h4
    · obtain ⟨⟨d', hd'⟩, hs⟩ := S.pm (j, p) hj
      have := S.ap i j d d' p (.inl e) (.inr hd') h1 hs
      subst this
      rw [e] at hd'; cases hd'
  refine ⟨p, o, h1, s, hd, fun a u q => ?_, by simpa using S.len, fun j x q => ?_, fun j x q => ?_, fun j k x y q a b => S.ap j k x y q (ow' a).2 (ow' b).2, fun q hq => ?_, S.f0.trans s, fun q a b => ?_, S.kp, fun q hq => ⟨(S.lc q hq).1, by
      have ne : q.1 ≠ p := fun z => by have := (S.lc q hq).2; rw [z, h2] at this; cases this
      rw [upd_ne ne]; exact (S.lc q hq).2⟩, fun q hq => ?_, fun a ob u q h' => by
    by_cases ha : a = p
    · subst ha; rw [upd_same] at q; cases q; rw [ho] at h'; exact absurd (Option.some.inj h') frz_ne
    · rw [upd_ne ha] at q; exact S.lk a ob u q h', fun j s' x q => by
      have q : IsTr env j s' x := by
        rcases q with q | q
        · rcases other q with ⟨_, z⟩ | ⟨_, b⟩
          · cases z
          · exact .inl b
        · rcases other q with ⟨_, z⟩ | ⟨_, b⟩
          · cases z
          · exact .inr b
      obtain ⟨v, L, g1, g2, g3, g4⟩ := S.tr j s' x q
      refine ⟨v, L, g1, g2.mono s, g3, fun r hr => ⟨(g4 r hr).1, ?_⟩⟩
      rw [upd_ne (ne_of_none (g4 r hr).2 h2)]; exact (g4 r hr).2, fun a m e => by
      by_cases ha : a = p
      · subst ha; rw [upd_same] at e; cases e; cases hb
      · rw [upd_ne ha] at e; exact S.mr a m e, S.gv, fun a ks h' => by
      by_cases ha : a = p
      · subst ha; rw [upd_same, ← h']; exact ho.symm
      · rw [upd_ne ha]; exact S.kt a ks h', S.tb⟩
  · by_cases ha : a = p
    · subst ha; rw [upd_same] at q; cases q; exact .inl ho
    · rw [upd_ne ha] at q; exact S.fh a u q
  · rcases other q with ⟨rfl, z⟩ | ⟨a, b⟩
    · cases z; exact ⟨_, h1, hd⟩
    · obtain ⟨v, h5, h6⟩ := S.fz j x b
      exact ⟨v, h5, h6.mono s⟩
  · obtain ⟨hj, q⟩ := ow' q
    obtain ⟨r, g1, g2, g3, g4⟩ := S.own j x q
    have ne : r ≠ p := by
      rintro rfl
      exact hj (S.ap j i x d r q (.inl e) g1 h1)
    exact ⟨r, g1, by rw [upd_ne ne]; exact g2, g3.mono s fun u hu => hu, g4⟩
  · obtain ⟨⟨x, hx⟩, hs⟩ := S.pm q hq
    have : q.1 ≠ i := by
      rintro z
      rw [z, e] at hx; cases hx
    exact ⟨⟨x, by rw [List.getElem?_set_ne (Ne.symm this)]; exact hx⟩, hs⟩
  · by_cases ha : q = p
    · subst ha; exact n0
    · rw [upd_ne ha] at b; exact S.nw q a b
  · obtain ⟨g1, g2, g3, g4⟩ := S.hx q hq
    have ne : q.1 ≠ p := fun z => g4 i d (.inl e) (by rw [z]; exact h1)
    exact ⟨g1, by rw [upd_ne ne]; exact g2, g3, fun j x h => g4 j x (ow' h).2⟩
/-- a name's own tree is put to the others -/
theorem Sl.frozeT (S : Sl K B F H σ env) {i : Nat} {s : Sh} {d : D} (e : env[i]? = some (.tr s d)) (f : s.flat = true) : ∃ v F', σ[i]? = some (some v) ∧ Sub F F' ∧ Dt K F' v d ∧ Sl K B F' H σ (env.set i (.fz d)) := by
  obtain ⟨v, L, h1, h2, h3, h4⟩ := S.tr i s d (.inl e)
  have nf := h2.nf f
  obtain ⟨F', hF'⟩ : ∃ F' : Hp, F' = fun a => if a ∈ L.map (·.1) then H a else F a := ⟨_, rfl⟩
  have fin : ∀ a, a ∈ L.map (·.1) → F' a = H a ∧ F a = some (.own i) ∧ ∃ o, H a = some o ∧ Nf o := fun a ha => by
    obtain ⟨q, hq, rfl⟩ := List.mem_map.mp ha
    exact ⟨by rw [hF']; exact if_pos ha, (h4 q hq).2, q.2, (h4 q hq).1, nf q hq⟩
  have fout : ∀ a, a ∉ L.map (·.1) → F' a = F a := fun a ha => by rw [hF']; exact if_neg ha
  have fo : ∀ a, F a ≠ some (.own i) → F' a = F a := fun a ha => fout a fun z => ha (fin a z).2.1
  have sb : Sub F F' := fun a o e m => by
    rw [fo a (fun z => by rw [e] at z; cases z; cases m)]; exact e
  have hd : Dt K F' v d := h2.froze sb f fun q hq => by
    rw [(fin q.1 (List.mem_map.mpr ⟨q, hq, rfl⟩)).1]; exact (h4 q hq).1
  have hi : i < env.length := (List.getElem?_eq_some_iff.mp e).1
  have other : ∀ {j : Nat} {x : Sv}, (env.set i (.fz d))[j]? = some x → (j = i ∧ x = .fz d) ∨ (j ≠ i ∧ env[j]? = some x) := fun {j x} q => by
    by_cases hj : j = i
    · subst hj
      rw [List.getElem?_set_self hi] at q
      cases q
      exact .inl ⟨rfl, rfl⟩
    · rw [List.getElem?_set_ne (Ne.symm hj)] at q
      exact .inr ⟨hj, q⟩
  have ow' : ∀ {j : Nat} {x : D}, IsOw (env.set i (.fz d)) j x → IsOw env j x := fun {j x} q => by
    rcases q with q | q
    · rcases other q with ⟨_, z⟩ | ⟨a, b⟩
      · cases z
      · exact .inl b
    · rcases other q with ⟨_, z⟩ | ⟨a, b⟩
      · cases z
      · exact .inr b
  refine ⟨v, F', h1, sb, hd, fun a u q => ?_, by simpa using S.len, fun j x q => ?_, fun j x q => ?_, fun j k x y q a b => S.ap j k x y q (ow' a) (ow' b), fun q hq => ?_, S.f0.trans sb, fun q a b => ?_, S.kp, fun q hq => ⟨(S.lc q hq).1, ?_⟩, fun q hq => ?_, fun a ob u q h' => ?_, fun j s' x q => ?_, fun a m e => ?_, S.gv, fun a ks h' => ?_, S.tb⟩
  rotate_right
  · by_cases ha : a ∈ L.map (·.1)
    · rw [(fin a ha).1]; exact h'
    · rw [fout a ha]; exact S.kt a ks h'
  · by_cases ha : a ∈ L.map (·.1)
    · rw [(fin a ha).1] at q; exact .inl q
    · rw [fout a ha] at q; exact S.fh a u q
  · rcases other q with ⟨rfl, z⟩ | ⟨_, b⟩
    · cases z; exact ⟨v, h1, hd⟩
    · obtain ⟨w, g1, g2⟩ := S.fz j x b
      exact ⟨w, g1, g2.mono sb⟩
  · obtain ⟨p, g1, g2, g3, g4⟩ := S.own j x (ow' q)
    exact ⟨p, g1, by rw [fo p (fun z => by rw [g2] at z; cases z)]; exact g2, g3.mono sb fun u hu => hu, g4⟩
  · obtain ⟨⟨x, hx⟩, hs⟩ := S.pm q hq
    have : q.1 ≠ i := by
      rintro z
      rw [z, e] at hx; cases hx
    exact ⟨⟨x, by rw [List.getElem?_set_ne (Ne.symm this)]; exact hx⟩, hs⟩
  · by_cases ha : q ∈ L.map (·.1)
    · rcases S.mr q i (fin q ha).2.1 with g | g
      · exact g
      · rcases (S.gv q g).2.2 with z | z
        · exact absurd a z
        · have := (fin q ha).2.1
          rw [S.tbF z] at this; cases this
    · rw [fout q ha] at b; exact S.nw q a b
  · by_cases ha : q.1 ∈ L.map (·.1)
    · obtain ⟨_, _, o, ho, n⟩ := fin _ ha
      have := (S.lc q hq).1
      rw [ho] at this
      exact absurd (Option.some.inj this) (n.2 _ _)
    · rw [fout _ ha]; exact (S.lc q hq).2
  · obtain ⟨g1, g2, g3, g4⟩ := S.hx q hq
    exact ⟨g1, by rw [fo _ (fun z => by rw [g2] at z; cases z)]; exact g2, g3, fun j x o => g4 j x (ow' o)⟩
  · by_cases ha : a ∈ L.map (·.1)
    · obtain ⟨_, _, o, ho, n⟩ := fin _ ha
      rw [ho] at h'
      exact absurd (Option.some.inj h') (n.2 _ _)
    · rw [fout a ha] at q; exact S.lk a ob u q h'
  · have q : j ≠ i ∧ IsTr env j s' x := by
      rcases q with q | q
      · rcases other q with ⟨_, z⟩ | ⟨c, b⟩
        · cases z
        · exact ⟨c, .inl b⟩
      · rcases other q with ⟨_, z⟩ | ⟨c, b⟩
        · cases z
        · exact ⟨c, .inr b⟩
    obtain ⟨w, L', g1, g2, g3, g4⟩ := S.tr j s' x q.2
    refine ⟨w, L', g1, g2.mono sb, g3, fun r hr => ⟨(g4 r hr).1, ?_⟩⟩
    rw [fo _ (fun z => by rw [(g4 r hr).2] at z; cases z; exact q.1 rfl)]
    exact (g4 r hr).2
  · by_cases ha : a ∈ L.map (·.1)
    · obtain ⟨g1, _, o, ho, n⟩ := fin _ ha
      rw [g1, ho] at e; cases e; cases n.1
    · rw [fout a ha] at e; exact S.mr a m e
end
end DL

/-! DLb: readings as functions on data. -/
namespace DL
open PySem L2

/-! ### a weaker reading -/
section
variable {X : Cx} {Tb : TbT}
theorem PEi {e : Expr} {t u : TE} (h : PE X e t) (le : ∀ σ H Q, u σ H Q → t σ H Q) : PE X e u := ⟨fun pins s σ H Q I q => h.run pins s σ H Q I (le σ H Q q)⟩
theorem PTi {e : Expr} {t u : TT} (h : PT X e t) (le : ∀ σ H Q, u σ H Q → t σ H Q) : PT X e u := ⟨fun pins s σ H Q I q => h.run pins s σ H Q I (le σ H Q q)⟩
theorem PWi {e : Expr} {t u : TT} (h : PW X e t) (le : ∀ σ H Q, u σ H Q → t σ H Q) : PW X e u := ⟨fun wh pins s σ H Q I q => h.run wh pins s σ H Q I (le σ H Q q)⟩
theorem PAi {e : List Expr} {t u : TA} (h : PA X e t) (le : ∀ σ H Q, u σ H Q → t σ H Q) : PA X e u := ⟨fun pos pins s σ H Q I q => h.run pos pins s σ H Q I (le σ H Q q)⟩
theorem PSi {e : Stmt} {t u : TS} (h : PS X e t) (le : ∀ E σ H, u E σ H → t E σ H) : PS X e u := ⟨fun pins s σ H E I q => h.run pins s σ H E I (le E σ H q)⟩
theorem PSsi {e : List Stmt} {t u : TS} (h : PSs X e t) (le : ∀ E σ H, u E σ H → t E σ H) : PSs X e u := ⟨fun pins s σ H E I q => h.run pins s σ H E I (le E σ H q)⟩
end

/-! ### expressions -/
abbrev Df := En → Option (D × En)
abbrev Bf := En → Option (Bool × En)
/-- the value is the data -/
def tD (K : Fg) (f : Df) : TE := fun σ H Q => ∃ B F env d env', Sl K B F H σ env ∧ f env = some (d, env') ∧ ∀ v F' H', Sl K B F' H' σ env' → Sub F F' → Dt K F' v d → Q v H'
/-- a new object that is nobody's yet -/
def tN (K : Fg) (f : Df) : TE := fun σ H Q => ∃ B F env d env', Sl K B F H σ env ∧ f env = some (d, env') ∧
  ∀ p F' H', Sl K B F' H' σ env' → Sub F F' → F' p = none → B.H0 p = none → (∀ i e, IsOw env' i e → σ[i]? ≠ some (some (.ref p))) → (∀ q ∈ B.X, q.1 ≠ p) → Own K F' H' p d → Q (.ref p) H'
def tT (K : Fg) (f : Bf) : TT := fun σ H Q => ∃ B F env b env', Sl K B F H σ env ∧ f env = some (b, env') ∧ ∀ F' H', Sl K B F' H' σ env' → Sub F F' → Q b H'
/-- what is an operand: an expression, or a name whose object may be one's own -/
inductive Opd where
  | ex (f : Df) | vr (i : Nat)
inductive OV where
  | fz (d : D) | sl (i : Nat)
def slotV (i : Nat) : Option Sv → Option OV
  | some (.fz d) => some (.fz d)
  | some (.ow _) => some (.sl i)
  | some (.pw _) => some (.sl i)
  | _ => none
def Opd.ev : Opd → En → Option (OV × En)
  | .ex f, env => (f env).bind fun r => some (.fz r.1, r.2)
  | .vr i, env => (slotV i env[i]?).bind fun u => some (u, env)
def slotD : Option Sv → Option D
  | some (.fz d) => some d
  | some (.ow d) => some d
  | some (.pw d) => some d
  | _ => none
def OV.look : OV → En → Option D
  | .fz d, _ => some d
  | .sl i, env => slotD env[i]?
def OVr (K : Fg) (F : Hp) (σ : L2.St) : OV → V → Prop
  | .fz d, v => Dt K F v d
  | .sl i, v => σ[i]? = some (some v)
/-- read: of the others, or one's own -/
def Bv (K : Fg) (F H : Hp) (v : V) (d : D) : Prop := Dt K F v d ∨ ∃ p, v = .ref p ∧ F p = none ∧ Own K F H p d
theorem OVr.mono {K : Fg} {F G : Hp} {σ : L2.St} {u : OV} {v : V} (h : OVr K F σ u v) (s : Sub F G) : OVr K G σ u v := by
  cases u with
  | fz d => exact Dt.mono s h
  | sl i => exact h
theorem OVr.bv {K : Fg} {B : Bs} {F H : Hp} {σ : L2.St} {env : En} {u : OV} {v : V} {d : D} (S : Sl K B F H σ env) (h : OVr K F σ u v) (e : u.look env = some d) : Bv K F H v d := by
  cases u with
  | fz d' => cases e; exact .inl h
  | sl i =>
    have h' : σ[i]? = some (some v) := h
    have e' : slotD env[i]? = some d := e
    cases q : env[i]? with
    | none => rw [q] at e'; cases e'
    | some x =>
      rw [q] at e'
      cases x with
      | un => cases e'
      | fz d' =>
        cases e'
        obtain ⟨w, h1, h2⟩ := S.fz i _ q
        rw [h'] at h1; cases h1
        exact .inl h2
      | ow d' =>
        cases e'
        obtain ⟨p, h1, h2, h3, _⟩ := S.own i _ (.inl q)
        rw [h'] at h1; cases h1
        exact .inr ⟨p, rfl, h2, h3⟩
      | pw d' =>
        cases e'
        obtain ⟨p, h1, h2, h3, _⟩ := S.own i _ (.inr q)
        rw [h'] at h1; cases h1
        exact .inr ⟨p, rfl, h2, h3⟩
      | tr _ _ => cases e'
      | tw _ _ => cases e'
def tO (K : Fg) (o : Opd) : TE := fun σ H Q => ∃ B F env u env', Sl K B F H σ env ∧ o.ev env = some (u, env') ∧ ∀ v F' H', Sl K B F' H' σ env' → Sub F F' → OVr K F' σ u v → Q v H'
def evs : List Opd → En → Option (List OV × En)
  | [], env => some ([], env)
  | o :: r, env => (o.ev env).bind fun t => (evs r t.2).bind fun z => some (t.1 :: z.1, z.2)
def looks : List OV → En → Option (List D)
  | [], _ => some []
  | u :: r, env => (u.look env).bind fun d => (looks r env).bind fun ds => some (d :: ds)
def OVA (K : Fg) (F : Hp) (σ : L2.St) : List OV → List V → Prop
  | [], [] => True
  | u :: us, v :: vs => OVr K F σ u v ∧ OVA K F σ us vs
  | _, _ => False
def BvA (K : Fg) (F H : Hp) : List V → List D → Prop
  | [], [] => True
  | v :: vs, d :: ds => Bv K F H v d ∧ BvA K F H vs ds
  | _, _ => False
theorem OVA.mono {K : Fg} {F G : Hp} {σ : L2.St} (s : Sub F G) : ∀ {us : List OV} {vs : List V}, OVA K F σ us vs → OVA K G σ us vs
  | [], [], _ => trivial
  | _ :: _, _ :: _, h => ⟨h.1.mono s, h.2.mono s⟩
  | [], _ :: _, h => h.elim
  | _ :: _, [], h => h.elim
theorem OVA.bv {K : Fg} {B : Bs} {F H : Hp} {σ : L2.St} {env : En} (S : Sl K B F H σ env) : ∀ {us : List OV} {vs : List V} {ds : List D}, OVA K F σ us vs → looks us env = some ds → BvA K F H vs ds
  | [], [], _, _, e => by cases e; trivial
  | u :: us, v :: vs, ds, h, e => by
    obtain ⟨d, q, e⟩ := Option.bind_eq_some_iff.mp e
    obtain ⟨es, q2, e⟩ := Option.bind_eq_some_iff.mp e
    cases e
    exact ⟨h.1.bv S q, h.2.bv S q2⟩
  | [], _ :: _, _, h, _ => h.elim
  | _ :: _, [], _, h, _ => h.elim
def tAr (K : Fg) (os : List Opd) : TA := fun σ H Q => ∃ B F env us env', Sl K B F H σ env ∧ evs os env = some (us, env') ∧ ∀ vs F' H', Sl K B F' H' σ env' → Sub F F' → OVA K F' σ us vs → Q vs H'

section
variable {X : Cx} {Tb : TbT} {e a b : Expr} {es : List Expr} {pos : Pos}
/-- from a new object to the others -/
theorem de_new {f : Df} (h : PE X e (tN (X.kg Tb) f)) : PE X e (tD (X.kg Tb) f) := PEi h fun σ H Q ⟨B, F, env, d, env', S, ef, k⟩ => by
  refine ⟨B, F, env, d, env', S, ef, fun p F' H' S' s n n0 no nx ow => ?_⟩
  obtain ⟨o, ho, hb⟩ := ow.some
  exact k (.ref p) (upd F' p o) H' (S'.froze ho n n0 no nx hb) (s.trans (Sub.new n)) (ow.froze ho n)
theorem do_ex {f : Df} (h : PE X e (tD (X.kg Tb) f)) : PE X e (tO (X.kg Tb) (.ex f)) := PEi h fun σ H Q ⟨B, F, env, u, env', S, ef, k⟩ => by
  obtain ⟨⟨d, e1⟩, q, ef⟩ := Option.bind_eq_some_iff.mp (show (f env).bind (fun r => some (OV.fz r.1, r.2)) = some (u, env') from ef)
  cases ef
  exact ⟨B, F, env, d, _, S, q, fun v F' H' S' s hd => k v F' H' S' s hd⟩
theorem do_vr (i : Nat) {x : Str} (hN : X.N[i]? = some x := by rfl) (hv : Vis X.env.scope x := by first | exact Or.inl rfl | exact Or.inr (Or.inl rfl) | exact Or.inr (Or.inr rfl)) (hd : (x == ("__debug__" : Str)) = false := by decide)
    (hcd : (x == ("__classdict__" : Str)) = false := by decide) : PE X (.Name x pos) (tO (X.kg Tb) (.vr i)) := PEi (pe_var hN hv hd hcd) fun σ H Q ⟨B, F, env, u, env', S, ef, k⟩ => by
  dsimp only [Opd.ev] at ef
  cases q : env[i]? with
  | none => rw [q] at ef; cases ef
  | some z =>
    rw [q] at ef
    cases z with
    | un => cases ef
    | fz d =>
      cases ef
      obtain ⟨v, h1, h2⟩ := S.fz i d q
      exact ⟨v, h1, k v F H S (Sub.refl F) h2⟩
    | ow d =>
      cases ef
      obtain ⟨p, h1, _⟩ := S.own i d (.inl q)
      exact ⟨_, h1, k _ F H S (Sub.refl F) h1⟩
    | pw d =>
      cases ef
      obtain ⟨p, h1, _⟩ := S.own i d (.inr q)
      exact ⟨_, h1, k _ F H S (Sub.refl F) h1⟩
    | tr _ _ => cases ef
    | tw _ _ => cases ef
/-- a name's value, handed on: one's own object is put to the others -/
def eVar (i : Nat) : Df := fun env => match env[i]? with
  | some (.fz d) => some (d, env)
  | some (.ow d) => some (d, env.set i (.fz d))
  | some (.tr s d) => if s.flat = true then some (d, env.set i (.fz d)) else none
  | _ => none
theorem de_var (i : Nat) {x : Str} (hN : X.N[i]? = some x := by rfl) (hv : Vis X.env.scope x := by first | exact Or.inl rfl | exact Or.inr (Or.inl rfl) | exact Or.inr (Or.inr rfl)) (hd : (x == ("__debug__" : Str)) = false := by decide)
    (hcd : (x == ("__classdict__" : Str)) = false := by decide) : PE X (.Name x pos) (tD (X.kg Tb) (eVar i)) := PEi (pe_var hN hv hd hcd) fun σ H Q ⟨B, F, env, d, env', S, ef, k⟩ => by
  unfold eVar at ef
  cases q : env[i]? with
  | none => rw [q] at ef; cases ef
  | some z =>
    rw [q] at ef
    cases z with
    | un => cases ef
    | pw _ => cases ef
    | tw _ _ => cases ef
    | fz d =>
      cases ef
      obtain ⟨v, h1, h2⟩ := S.fz i d q
      exact ⟨v, h1, k v F H S (Sub.refl F) h2⟩
    | tr s d =>
      dsimp only at ef
      split at ef
      · rename_i f
        cases ef
        obtain ⟨v, F', h1, s, hd, S'⟩ := S.frozeT q f
        exact ⟨_, h1, k _ _ H S' s hd⟩
      · cases ef
    | ow d =>
      cases ef
      obtain ⟨p, o, h1, s, hd, S'⟩ := S.frozeAt q
      exact ⟨_, h1, k _ _ H S' s hd⟩
def eC (d : D) : Df := fun env => some (d, env)
theorem de_c {v : V} {d : D} (h : PE X e (tC v)) (hd : ∀ F, Dt (X.kg Tb) F v d) : PE X e (tD (X.kg Tb) (eC d)) := PEi h fun σ H Q ⟨B, F, env, d', env', S, ef, k⟩ => by
  cases ef
  exact k v F H S (Sub.refl F) (hd F)
theorem de_int {i : Int} {j : Nat} : PE X (.Constant (.int i) j pos) (tD (X.kg Tb) (eC (.int i))) := de_c pe_int fun _ => .int i
theorem de_bool {b : Bool} {j : Nat} : PE X (.Constant (.bool b) j pos) (tD (X.kg Tb) (eC (.bool b))) := de_c pe_bl fun _ => .bl b
theorem de_none {j : Nat} : PE X (.Constant .none j pos) (tD (X.kg Tb) (eC .none)) := de_c pe_non fun _ => .non
theorem de_str {x : Str} {j : Nat} : PE X (.Constant (.str x) j pos) (tD (X.kg Tb) (eC (.str x))) := de_c pe_str fun _ => .str x
/-- a module's constant -/
theorem de_globInt {x : Str} {i : Int} {t : Tok} (hg : Gl X x) (hm : X.mg x = some (.int i t)) (hd : (x == ("__debug__" : Str)) = false := by decide) : PE X (.Name x pos) (tD (X.kg Tb) (eC (.int i))) := de_c (v := .int i) (pe_glob hg hm ⟨t, rfl⟩ hd) fun _ => .int i

/-! ### operands in a row -/
theorem da_nil : PA X [] (tAr (X.kg Tb) []) := PAi pa_nil fun σ H Q ⟨B, F, env, us, env', S, ef, k⟩ => by
  cases ef
  exact k [] F H S (Sub.refl F) trivial
theorem da_cons {o : Opd} {os : List Opd} (ha : PE X e (tO (X.kg Tb) o)) (hr : PA X es (tAr (X.kg Tb) os)) (hs : starEach (e :: es) X.env = (false, eval e X.env) :: starEach es X.env := by rfl) : PA X (e :: es) (tAr (X.kg Tb) (o :: os)) :=
  PAi (pa_cons ha hr hs) fun σ H Q ⟨B, F, env, us, env', S, ef, k⟩ => by
    obtain ⟨⟨u, e1⟩, q, ef⟩ := Option.bind_eq_some_iff.mp (show (o.ev env).bind (fun t => (evs os t.2).bind fun z => some (t.1 :: z.1, z.2)) = some (us, env') from ef)
    obtain ⟨⟨us', e2⟩, q2, ef⟩ := Option.bind_eq_some_iff.mp ef
    cases ef
    exact ⟨B, F, env, u, e1, S, q, fun v F1 H1 S1 s1 h1 => ⟨B, F1, e1, us', _, S1, q2, fun vs F2 H2 S2 s2 h2 => k (v :: vs) F2 H2 S2 (s1.trans s2) ⟨h1.mono s2, h2⟩⟩⟩

/-! ### operators -/
def op1 (g : D → Option D) (a : Opd) : Df := fun env => (a.ev env).bind fun r => (r.1.look r.2).bind fun x => (g x).bind fun d => some (d, r.2)
def op2 (g : D → D → Option D) (a b : Opd) : Df := fun env => (a.ev env).bind fun r => (b.ev r.2).bind fun t => (r.1.look t.2).bind fun x => (t.1.look t.2).bind fun y => (g x y).bind fun d => some (d, t.2)
def opA (g : List D → Option D) (os : List Opd) : Df := fun env => (evs os env).bind fun r => (looks r.1 r.2).bind fun ds => (g ds).bind fun d => some (d, r.2)
theorem bd {α β : Type} {o : Option α} {f : α → Option β} {b : β} (h : o.bind f = some b) : ∃ a, o = some a ∧ f a = some b := Option.bind_eq_some_iff.mp h
/-- what follows a value, a new object -/
def KD (K : Fg) (B : Bs) (F : Hp) (σ : L2.St) (env : En) (d : D) (Q : VK) : Prop := ∀ v F' H', Sl K B F' H' σ env → Sub F F' → Dt K F' v d → Q v H'
def KN (K : Fg) (B : Bs) (F : Hp) (σ : L2.St) (env : En) (d : D) (Q : VK) : Prop := ∀ p F' H', Sl K B F' H' σ env → Sub F F' → F' p = none → B.H0 p = none → (∀ i e, IsOw env i e → σ[i]? ≠ some (some (.ref p))) → (∀ q ∈ B.X, q.1 ≠ p) → Own K F' H' p d → Q (.ref p) H'
def Ok1 (K : Fg) (r : V → Hp → VK → Prop) (g : D → Option D) : Prop := ∀ {B : Bs} {F H : Hp} {σ : L2.St} {env : En} {x : V} {a d : D} {Q : VK}, Sl K B F H σ env → Bv K F H x a → g a = some d → KD K B F σ env d Q → r x H Q
def Ok2 (K : Fg) (r : R2) (g : D → D → Option D) : Prop := ∀ {B : Bs} {F H : Hp} {σ : L2.St} {env : En} {x y : V} {a b d : D} {Q : VK}, Sl K B F H σ env → Bv K F H x a → Bv K F H y b → g a b = some d → KD K B F σ env d Q → r x y H Q
def Ok2N (K : Fg) (r : R2) (g : D → D → Option D) : Prop := ∀ {B : Bs} {F H : Hp} {σ : L2.St} {env : En} {x y : V} {a b d : D} {Q : VK}, Sl K B F H σ env → Bv K F H x a → Bv K F H y b → g a b = some d → KN K B F σ env d Q → r x y H Q
def OkA (K : Fg) (r : List V → Hp → VK → Prop) (g : List D → Option D) : Prop := ∀ {B : Bs} {F H : Hp} {σ : L2.St} {env : En} {xs : List V} {ds : List D} {d : D} {Q : VK}, Sl K B F H σ env → BvA K F H xs ds → g ds = some d → KD K B F σ env d Q → r xs H Q
def OkAN (K : Fg) (r : List V → Hp → VK → Prop) (g : List D → Option D) : Prop := ∀ {B : Bs} {F H : Hp} {σ : L2.St} {env : En} {xs : List V} {ds : List D} {d : D} {Q : VK}, Sl K B F H σ env → BvA K F H xs ds → g ds = some d → KN K B F σ env d Q → r xs H Q
theorem op1_le {K : Fg} {r : V → Hp → VK → Prop} {g : D → Option D} {a : Opd} (ho : Ok1 K r g) : ∀ σ H Q, tD K (op1 g a) σ H Q → tUn r (tO K a) σ H Q := fun σ H Q ⟨B, F, env, d, env', S, ef, k⟩ => by
  obtain ⟨⟨u, e1⟩, q1, ef⟩ := bd ef
  obtain ⟨x, q2, ef⟩ := bd ef
  obtain ⟨d', q3, ef⟩ := bd ef
  cases ef
  exact ⟨B, F, env, u, _, S, q1, fun v F1 H1 S1 s1 h1 => ho S1 (h1.bv S1 q2) q3 fun v' F' H' S' s' h' => k v' F' H' S' (s1.trans s') h'⟩
theorem op2_le {K : Fg} {r : R2} {g : D → D → Option D} {a b : Opd} (ho : Ok2 K r g) : ∀ σ H Q, tD K (op2 g a b) σ H Q → tOp r (tO K a) (tO K b) σ H Q := fun σ H Q ⟨B, F, env, d, env', S, ef, k⟩ => by
  obtain ⟨⟨u, e1⟩, q1, ef⟩ := bd ef
  obtain ⟨⟨w, e2⟩, q2, ef⟩ := bd ef
  obtain ⟨x, q3, ef⟩ := bd ef
  obtain ⟨y, q4, ef⟩ := bd ef
  obtain ⟨d', q5, ef⟩ := bd ef
  cases ef
  exact ⟨B, F, env, u, e1, S, q1, fun v F1 H1 S1 s1 h1 => ⟨B, F1, e1, w, _, S1, q2, fun v2 F2 H2 S2 s2 h2 => ho S2 ((h1.mono s2).bv S2 q3) (h2.bv S2 q4) q5 fun v' F' H' S' s' h' => k v' F' H' S' ((s1.trans s2).trans s') h'⟩⟩
theorem op2N_le {K : Fg} {r : R2} {g : D → D → Option D} {a b : Opd} (ho : Ok2N K r g) : ∀ σ H Q, tN K (op2 g a b) σ H Q → tOp r (tO K a) (tO K b) σ H Q := fun σ H Q ⟨B, F, env, d, env', S, ef, k⟩ => by
  obtain ⟨⟨u, e1⟩, q1, ef⟩ := bd ef
  obtain ⟨⟨w, e2⟩, q2, ef⟩ := bd ef
  obtain ⟨x, q3, ef⟩ := bd ef
  obtain ⟨y, q4, ef⟩ := bd ef
  obtain ⟨d', q5, ef⟩ := bd ef
  cases ef
  exact ⟨B, F, env, u, e1, S, q1, fun v F1 H1 S1 s1 h1 => ⟨B, F1, e1, w, _, S1, q2, fun v2 F2 H2 S2 s2 h2 => ho S2 ((h1.mono s2).bv S2 q3) (h2.bv S2 q4) q5 fun p F' H' S' s' a1 a2 a3 a5 a4 => k p F' H' S' ((s1.trans s2).trans s') a1 a2 a3 a5 a4⟩⟩
theorem opA_le {K : Fg} {r : List V → Hp → VK → Prop} {g : List D → Option D} {os : List Opd} (ho : OkA K r g) : ∀ σ H Q, tD K (opA g os) σ H Q → tCB r (tAr K os) σ H Q := fun σ H Q ⟨B, F, env, d, env', S, ef, k⟩ => by
  obtain ⟨⟨us, e1⟩, q1, ef⟩ := bd ef
  obtain ⟨ds, q2, ef⟩ := bd ef
  obtain ⟨d', q3, ef⟩ := bd ef
  cases ef
  exact ⟨B, F, env, us, _, S, q1, fun vs F1 H1 S1 s1 h1 => ho S1 (h1.bv S1 q2) q3 fun v' F' H' S' s' h' => k v' F' H' S' (s1.trans s') h'⟩
theorem opAN_le {K : Fg} {r : List V → Hp → VK → Prop} {g : List D → Option D} {os : List Opd} (ho : OkAN K r g) : ∀ σ H Q, tN K (opA g os) σ H Q → tCB r (tAr K os) σ H Q := fun σ H Q ⟨B, F, env, d, env', S, ef, k⟩ => by
  obtain ⟨⟨us, e1⟩, q1, ef⟩ := bd ef
  obtain ⟨ds, q2, ef⟩ := bd ef
  obtain ⟨d', q3, ef⟩ := bd ef
  cases ef
  exact ⟨B, F, env, us, _, S, q1, fun vs F1 H1 S1 s1 h1 => ho S1 (h1.bv S1 q2) q3 fun p F' H' S' s' a1 a2 a3 a5 a4 => k p F' H' S' (s1.trans s') a1 a2 a3 a5 a4⟩
theorem de_op {op : Operator} {r : R2} {g : D → D → Option D} {oa ob : Opd} (ho : OpR X (binaryOp op) r) (hk : Ok2 (X.kg Tb) r g) (ha : PE X a (tO (X.kg Tb) oa)) (hb : PE X b (tO (X.kg Tb) ob)) : PE X (.BinOp a op b pos) (tD (X.kg Tb) (op2 g oa ob)) := PEi (pe_op ho ha hb) (op2_le hk)
theorem de_opN {op : Operator} {r : R2} {g : D → D → Option D} {oa ob : Opd} (ho : OpR X (binaryOp op) r) (hk : Ok2N (X.kg Tb) r g) (ha : PE X a (tO (X.kg Tb) oa)) (hb : PE X b (tO (X.kg Tb) ob)) : PE X (.BinOp a op b pos) (tN (X.kg Tb) (op2 g oa ob)) := PEi (pe_op ho ha hb) (op2N_le hk)
theorem de_cmp {op : CmpOp} {r : R2} {g : D → D → Option D} {oa ob : Opd} (ho : OpR X (compareOp op) r) (hk : Ok2 (X.kg Tb) r g) (ha : PE X a (tO (X.kg Tb) oa)) (hb : PE X b (tO (X.kg Tb) ob)) (hm : behindInMarks op b = false) : PE X (.Compare a [op] [b] pos) (tD (X.kg Tb) (op2 g oa ob)) := PEi (pe_cmpR ho ha hb hm) (op2_le hk)
theorem de_callB {x : Str} {p : Pos} {id : String} {r : List V → Hp → VK → Prop} {g : List D → Option D} {os : List Opd} (hc : CallR X (.builtin id) r) (hk : OkA (X.kg Tb) r g) (hg : Gl X x) (hm : X.mg x = none) (hv : bootBuiltins x = some (.builtin id)) (ha : PA X (e :: es) (tAr (X.kg Tb) os)) (hn : x ≠ "__name__" := by decide) (hdb : (x == ("__debug__" : Str)) = false := by decide)
    (he : starEach (e :: es) X.env = (false, eval e X.env) :: starEach es X.env := by rfl) (hpl : (backTo pos (starEach es X.env)).any (·.1) = false := by rfl) : PE X (.Call (.Name x p) (e :: es) [] pos) (tD (X.kg Tb) (opA g os)) := PEi (pe_callB hc hg hm hv ha hn hdb he hpl) (opA_le hk)
theorem de_callBN {x : Str} {p : Pos} {id : String} {r : List V → Hp → VK → Prop} {g : List D → Option D} {os : List Opd} (hc : CallR X (.builtin id) r) (hk : OkAN (X.kg Tb) r g) (hg : Gl X x) (hm : X.mg x = none) (hv : bootBuiltins x = some (.builtin id)) (ha : PA X (e :: es) (tAr (X.kg Tb) os)) (hn : x ≠ "__name__" := by decide) (hdb : (x == ("__debug__" : Str)) = false := by decide)
    (he : starEach (e :: es) X.env = (false, eval e X.env) :: starEach es X.env := by rfl) (hpl : (backTo pos (starEach es X.env)).any (·.1) = false := by rfl) : PE X (.Call (.Name x p) (e :: es) [] pos) (tN (X.kg Tb) (opA g os)) := PEi (pe_callB hc hg hm hv ha hn hdb he hpl) (opAN_le hk)
theorem de_callTy {x : Str} {p : Pos} {T : String} {r : List V → Hp → VK → Prop} {g : List D → Option D} {os : List Opd} (hc : CallR X (.type T) r) (hk : OkA (X.kg Tb) r g) (hg : Gl X x) (hm : X.mg x = none) (hv : bootBuiltins x = some (.type T)) (ha : PA X (e :: es) (tAr (X.kg Tb) os)) (hn : x ≠ "__name__" := by decide) (hdb : (x == ("__debug__" : Str)) = false := by decide)
    (he : starEach (e :: es) X.env = (false, eval e X.env) :: starEach es X.env := by rfl) (hpl : (backTo pos (starEach es X.env)).any (·.1) = false := by rfl) : PE X (.Call (.Name x p) (e :: es) [] pos) (tD (X.kg Tb) (opA g os)) := PEi (pe_callTy hc hg hm hv ha hn hdb he hpl) (opA_le hk)
theorem de_callTyN {x : Str} {p : Pos} {T : String} {r : List V → Hp → VK → Prop} {g : List D → Option D} {os : List Opd} (hc : CallR X (.type T) r) (hk : OkAN (X.kg Tb) r g) (hg : Gl X x) (hm : X.mg x = none) (hv : bootBuiltins x = some (.type T)) (ha : PA X (e :: es) (tAr (X.kg Tb) os)) (hn : x ≠ "__name__" := by decide) (hdb : (x == ("__debug__" : Str)) = false := by decide)
    (he : starEach (e :: es) X.env = (false, eval e X.env) :: starEach es X.env := by rfl) (hpl : (backTo pos (starEach es X.env)).any (·.1) = false := by rfl) : PE X (.Call (.Name x p) (e :: es) [] pos) (tN (X.kg Tb) (opA g os)) := PEi (pe_callTy hc hg hm hv ha hn hdb he hpl) (opAN_le hk)
end
end DL

/-! DLc: tests, statements, targets. -/
namespace DL
open PySem L2

/-! ### tests -/
def bD (f : Df) : Bf := fun env => (f env).bind fun r => match r.1 with
  | .bool b => some (b, r.2)
  | _ => none
def bAnd (f g : Bf) : Bf := fun env => (f env).bind fun r => if r.1 = true then g r.2 else some (false, r.2)
def bOr (f g : Bf) : Bf := fun env => (f env).bind fun r => if r.1 = true then some (true, r.2) else g r.2
def bNot (f : Bf) : Bf := fun env => (f env).bind fun r => some (!r.1, r.2)
def eB (f : Bf) : Df := fun env => (f env).bind fun r => some (.bool r.1, r.2)
def eAnd (f g : Df) : Df := fun env => (bD f env).bind fun r => if r.1 = true then g r.2 else some (.bool false, r.2)
def eOr (f g : Df) : Df := fun env => (bD f env).bind fun r => if r.1 = true then some (.bool true, r.2) else g r.2
def eNot (f : Df) : Df := fun env => (bD f env).bind fun r => some (.bool (!r.1), r.2)
def eIf (c : Bf) (f g : Df) : Df := fun env => (c env).bind fun r => if r.1 = true then f r.2 else g r.2
def eChain (g g' : D → D → Option D) (a b c : Opd) : Df := fun env => (a.ev env).bind fun r => (b.ev r.2).bind fun t => (r.1.look t.2).bind fun x => (t.1.look t.2).bind fun y => (g x y).bind fun d => match d with
  | .bool true => (c.ev t.2).bind fun z => (t.1.look z.2).bind fun y' => (z.1.look z.2).bind fun w => (g' y' w).bind fun d' => some (d', z.2)
  | .bool false => some (.bool false, t.2)
  | _ => none
theorem Dt.bool_inv {K : Fg} {F : Hp} {v : V} {b : Bool} (h : Dt K F v (.bool b)) : v = .bl b := by cases h; rfl
theorem Dt.int_inv {K : Fg} {F : Hp} {v : V} {i : Int} (h : Dt K F v (.int i)) : v = .int i := by cases h; rfl
theorem Dt.str_inv {K : Fg} {F : Hp} {v : V} {x : Str} (h : Dt K F v (.str x)) : v = .str x := by cases h; rfl
theorem Dt.none_inv {K : Fg} {F : Hp} {v : V} (h : Dt K F v .none) : v = .non := by cases h; rfl
theorem Bv.dt {K : Fg} {F H : Hp} {v : V} {d : D} (h : Bv K F H v d) (n : ∀ p, ¬ Own K F H p d) : Dt K F v d := by
  rcases h with h | ⟨p, _, _, h⟩
  · exact h
  · exact absurd h (n p)
theorem Bv.bool_inv {K : Fg} {F H : Hp} {v : V} {b : Bool} (h : Bv K F H v (.bool b)) : v = .bl b := (h.dt fun _ z => z).bool_inv
theorem Bv.int_inv {K : Fg} {F H : Hp} {v : V} {b : Int} (h : Bv K F H v (.int b)) : v = .int b := (h.dt fun _ z => z).int_inv
theorem Bv.str_inv {K : Fg} {F H : Hp} {v : V} {b : Str} (h : Bv K F H v (.str b)) : v = .str b := (h.dt fun _ z => z).str_inv
theorem Bv.none_inv {K : Fg} {F H : Hp} {v : V} (h : Bv K F H v .none) : v = .non := (h.dt fun _ z => z).none_inv

theorem bD_inv {f : Df} {env : En} {b : Bool} {e : En} (h : bD f env = some (b, e)) : f env = some (.bool b, e) := by
  obtain ⟨⟨d, e1⟩, q, h⟩ := bd h
  cases d <;> first | (cases h; done) | skip
  cases h
  exact q
section
variable {X : Cx} {Tb : TbT} {e a b c : Expr} {rest : List Expr} {pos : Pos}
theorem dt_val {f : Df} (h : PE X e (tD (X.kg Tb) f)) (he : ∀ whole, isTrue e X.env whole = (do let v ← whole; standAt e.pos; holding [v] (truthy v)) := by intro _; rfl) : PT X e (tT (X.kg Tb) (bD f)) :=
  PTi (pt_val h he) fun σ H Q ⟨B, F, env, b, env', S, ef, k⟩ => ⟨B, F, env, .bool b, env', S, bD_inv ef, fun v F' H' S' s h => ⟨b, h.bool_inv, k F' H' S' s⟩⟩
theorem dt_cmp {op : CmpOp} {r : R2} {g : D → D → Option D} {oa ob : Opd} (ho : OpR X (compareOp op) r) (hk : Ok2 (X.kg Tb) r g) (ha : PE X a (tO (X.kg Tb) oa)) (hb : PE X b (tO (X.kg Tb) ob)) (hm : behindInMarks op b = false) : PT X (.Compare a [op] [b] pos) (tT (X.kg Tb) (bD (op2 g oa ob))) :=
  PTi (pt_cmpR ho ha hb hm) fun σ H Q ⟨B, F, env, b, env', S, ef, k⟩ => op2_le hk σ H _ ⟨B, F, env, .bool b, env', S, bD_inv ef, fun v F' H' S' s h => ⟨b, h.bool_inv, k F' H' S' s⟩⟩
theorem chain_le {K : Fg} {r r' : R2} {g g' : D → D → Option D} {oa ob oc : Opd} (hk : Ok2 K r g) (hk' : Ok2 K r' g') : ∀ σ H Q, tD K (eChain g g' oa ob oc) σ H Q → tChain r r' (tO K oa) (tO K ob) (tO K oc) σ H Q := fun σ H Q ⟨B, F, env, d, env', S, ef, k⟩ => by
  obtain ⟨⟨u, e1⟩, q1, ef⟩ := bd ef
  obtain ⟨⟨w, e2⟩, q2, ef⟩ := bd ef
  obtain ⟨x, q3, ef⟩ := bd ef
  obtain ⟨y, q4, ef⟩ := bd ef
  obtain ⟨d', q5, ef⟩ := bd ef
  refine ⟨B, F, env, u, e1, S, q1, fun v F1 H1 S1 s1 h1 => ⟨B, F1, e1, w, e2, S1, q2, fun v2 F2 H2 S2 s2 h2 => hk S2 ((h1.mono s2).bv S2 q3) (h2.bv S2 q4) q5 fun v' F' H' S' s' h' => ?_⟩⟩
  cases d' <;> first | (cases ef; done) | skip
  rename_i t
  refine ⟨t, h'.bool_inv, ?_⟩
  cases t with
  | false =>
    rw [if_neg Bool.false_ne_true]
    cases ef
    exact k _ F' H' S' ((s1.trans s2).trans s') (.bl false)
  | true =>
    rw [if_pos rfl]
    obtain ⟨⟨z, e3⟩, q6, ef⟩ := bd ef
    obtain ⟨y', q7, ef⟩ := bd ef
    obtain ⟨w', q8, ef⟩ := bd ef
    obtain ⟨d', q9, ef⟩ := bd ef
    cases ef
    exact ⟨B, F', e2, z, _, S', q6, fun v3 F3 H3 S3 s3 h3 => hk' S3 (((h2.mono s').mono s3).bv S3 q7) (h3.bv S3 q8) q9 fun v4 F4 H4 S4 s4 h4 => k v4 F4 H4 S4 ((((s1.trans s2).trans s').trans s3).trans s4) h4⟩
theorem de_chain {op op' : CmpOp} {r r' : R2} {g g' : D → D → Option D} {oa ob oc : Opd} (ho : OpR X (compareOp op) r) (hk : Ok2 (X.kg Tb) r g) (ho' : OpR X (compareOp op') r') (hk' : Ok2 (X.kg Tb) r' g') (ha : PE X a (tO (X.kg Tb) oa)) (hb : PE X b (tO (X.kg Tb) ob)) (hc : PE X c (tO (X.kg Tb) oc))
    (hm : lastMarks [op, op'] [b, c] = false := by with_unfolding_all rfl) : PE X (.Compare a [op, op'] [b, c] pos) (tD (X.kg Tb) (eChain g g' oa ob oc)) := PEi (pe_chain ho ho' ha hb hc hm) (chain_le hk hk')
theorem dt_chain {op op' : CmpOp} {r r' : R2} {g g' : D → D → Option D} {oa ob oc : Opd} (ho : OpR X (compareOp op) r) (hk : Ok2 (X.kg Tb) r g) (ho' : OpR X (compareOp op') r') (hk' : Ok2 (X.kg Tb) r' g') (ha : PE X a (tO (X.kg Tb) oa)) (hb : PE X b (tO (X.kg Tb) ob)) (hc : PE X c (tO (X.kg Tb) oc))
    (hm : lastMarks [op, op'] [b, c] = false := by with_unfolding_all rfl) : PT X (.Compare a [op, op'] [b, c] pos) (tT (X.kg Tb) (bD (eChain g g' oa ob oc))) :=
  PTi (pt_chain ho ho' ha hb hc hm) fun σ H Q ⟨B, F, env, b, env', S, ef, k⟩ => chain_le hk hk' σ H _ ⟨B, F, env, .bool b, env', S, bD_inv ef, fun v F' H' S' s h => ⟨b, h.bool_inv, k F' H' S' s⟩⟩
theorem dw_and1 {f : Bf} (ha : PT X a (tT (X.kg Tb) f)) : PW X (.BoolOp .And [a] pos) (tT (X.kg Tb) f) := pw_and1 ha
theorem dw_or1 {f : Bf} (ha : PT X a (tT (X.kg Tb) f)) : PW X (.BoolOp .Or [a] pos) (tT (X.kg Tb) f) := pw_or1 ha
theorem dw_and {f g : Bf} (ha : PT X a (tT (X.kg Tb) f)) (hb : PW X (.BoolOp .And (b :: rest) pos) (tT (X.kg Tb) g)) : PW X (.BoolOp .And (a :: b :: rest) pos) (tT (X.kg Tb) (bAnd f g)) :=
  PWi (pw_and ha hb) fun σ H Q ⟨B, F, env, b, env', S, ef, k⟩ => by
    obtain ⟨⟨c, e1⟩, q1, ef⟩ := bd ef
    refine ⟨B, F, env, c, e1, S, q1, fun F1 H1 S1 s1 => ?_⟩
    cases c with
    | true =>
      rw [if_pos rfl]
      rw [if_pos rfl] at ef
      exact ⟨B, F1, e1, b, env', S1, ef, fun F2 H2 S2 s2 => k F2 H2 S2 (s1.trans s2)⟩
    | false =>
      rw [if_neg Bool.false_ne_true]
      rw [if_neg Bool.false_ne_true] at ef
      cases ef
      exact k F1 H1 S1 s1
theorem dw_or {f g : Bf} (ha : PT X a (tT (X.kg Tb) f)) (hb : PW X (.BoolOp .Or (b :: rest) pos) (tT (X.kg Tb) g)) : PW X (.BoolOp .Or (a :: b :: rest) pos) (tT (X.kg Tb) (bOr f g)) :=
  PWi (pw_or ha hb) fun σ H Q ⟨B, F, env, b, env', S, ef, k⟩ => by
    obtain ⟨⟨c, e1⟩, q1, ef⟩ := bd ef
    refine ⟨B, F, env, c, e1, S, q1, fun F1 H1 S1 s1 => ?_⟩
    cases c with
    | false =>
      rw [if_neg Bool.false_ne_true]
      rw [if_neg Bool.false_ne_true] at ef
      exact ⟨B, F1, e1, b, env', S1, ef, fun F2 H2 S2 s2 => k F2 H2 S2 (s1.trans s2)⟩
    | true =>
      rw [if_pos rfl]
      rw [if_pos rfl] at ef
      cases ef
      exact k F1 H1 S1 s1
theorem dt_not {f : Bf} (ha : PT X a (tT (X.kg Tb) f)) : PT X (.UnaryOp .Not a pos) (tT (X.kg Tb) (bNot f)) :=
  PTi (pt_not ha) fun σ H Q ⟨B, F, env, b, env', S, ef, k⟩ => by
    obtain ⟨⟨c, e1⟩, q1, ef⟩ := bd ef
    cases ef
    exact ⟨B, F, env, c, _, S, q1, k⟩
/-! .. as values -/
theorem de_one {op : BoolOp} {f : Df} (h : PE X a (tD (X.kg Tb) f)) : PE X (.BoolOp op [a] pos) (tD (X.kg Tb) f) := pe_one h
theorem de_and {f g : Df} (ha : PE X a (tD (X.kg Tb) f)) (hb : PE X (.BoolOp .And (b :: rest) pos) (tD (X.kg Tb) g)) : PE X (.BoolOp .And (a :: b :: rest) pos) (tD (X.kg Tb) (eAnd f g)) :=
  PEi (pe_and ha hb) fun σ H Q ⟨B, F, env, d, env', S, ef, k⟩ => by
    obtain ⟨⟨c, e1⟩, q1, ef⟩ := bd ef
    refine ⟨B, F, env, .bool c, e1, S, bD_inv q1, fun v F1 H1 S1 s1 h1 => ⟨c, h1.bool_inv, ?_⟩⟩
    cases c with
    | true =>
      rw [if_pos rfl]
      rw [if_pos rfl] at ef
      exact ⟨B, F1, e1, d, env', S1, ef, fun v2 F2 H2 S2 s2 h2 => k v2 F2 H2 S2 (s1.trans s2) h2⟩
    | false =>
      rw [if_neg Bool.false_ne_true]
      rw [if_neg Bool.false_ne_true] at ef
      cases ef
      exact k _ F1 H1 S1 s1 (.bl false)
theorem de_or {f g : Df} (ha : PE X a (tD (X.kg Tb) f)) (hb : PE X (.BoolOp .Or (b :: rest) pos) (tD (X.kg Tb) g)) : PE X (.BoolOp .Or (a :: b :: rest) pos) (tD (X.kg Tb) (eOr f g)) :=
  PEi (pe_or ha hb) fun σ H Q ⟨B, F, env, d, env', S, ef, k⟩ => by
    obtain ⟨⟨c, e1⟩, q1, ef⟩ := bd ef
    refine ⟨B, F, env, .bool c, e1, S, bD_inv q1, fun v F1 H1 S1 s1 h1 => ⟨c, h1.bool_inv, ?_⟩⟩
    cases c with
    | false =>
      rw [if_neg Bool.false_ne_true]
      rw [if_neg Bool.false_ne_true] at ef
      exact ⟨B, F1, e1, d, env', S1, ef, fun v2 F2 H2 S2 s2 h2 => k v2 F2 H2 S2 (s1.trans s2) h2⟩
    | true =>
      rw [if_pos rfl]
      rw [if_pos rfl] at ef
      cases ef
      exact k _ F1 H1 S1 s1 (.bl true)
theorem de_not {f : Df} (ha : PE X a (tD (X.kg Tb) f)) : PE X (.UnaryOp .Not a pos) (tD (X.kg Tb) (eNot f)) :=
  PEi (pe_not ha) fun σ H Q ⟨B, F, env, d, env', S, ef, k⟩ => by
    obtain ⟨⟨c, e1⟩, q1, ef⟩ := bd ef
    cases ef
    exact ⟨B, F, env, .bool c, _, S, bD_inv q1, fun v F1 H1 S1 s1 h1 => ⟨c, h1.bool_inv, k _ F1 H1 S1 s1 (.bl _)⟩⟩
theorem de_if {t : Bf} {f g : Df} (hc : PT X c (tT (X.kg Tb) t)) (ha : PE X a (tD (X.kg Tb) f)) (hb : PE X b (tD (X.kg Tb) g)) : PE X (.IfExp c a b pos) (tD (X.kg Tb) (eIf t f g)) :=
  PEi (pe_ifExp hc ha hb) fun σ H Q ⟨B, F, env, d, env', S, ef, k⟩ => by
    obtain ⟨⟨c, e1⟩, q1, ef⟩ := bd ef
    refine ⟨B, F, env, c, e1, S, q1, fun F1 H1 S1 s1 => ?_⟩
    cases c with
    | true =>
      rw [if_pos rfl]
      rw [if_pos rfl] at ef
      exact ⟨B, F1, e1, d, env', S1, ef, fun v2 F2 H2 S2 s2 h2 => k v2 F2 H2 S2 (s1.trans s2) h2⟩
    | false =>
      rw [if_neg Bool.false_ne_true]
      rw [if_neg Bool.false_ne_true] at ef
      exact ⟨B, F1, e1, d, env', S1, ef, fun v2 F2 H2 S2 s2 h2 => k v2 F2 H2 S2 (s1.trans s2) h2⟩
end

/-! ### names are stored -/
/-- a name that may be stored: none of the caller's own -/
def mayPut : Option Sv → Bool
  | some (.pw _) => false
  | some (.tw _ _) => false
  | some _ => true
  | none => false
def put (i : Nat) (x : Sv) (env : En) : Option En := if mayPut env[i]? = true then some (env.set i x) else none
theorem put_inv {i : Nat} {x : Sv} {env e : En} (h : put i x env = some e) : i < env.length ∧ (∀ d, env[i]? ≠ some (.pw d)) ∧ e = env.set i x := by
  unfold put at h
  split at h
  · rename_i m
    cases h
    cases q : env[i]? with
    | none => rw [q] at m; cases m
    | some z =>
      refine ⟨(List.getElem?_eq_some_iff.mp q).1, fun d z' => ?_, rfl⟩
      cases z'
      rw [q] at m
      cases m
  · cases h
section
variable {K : Fg} {B : Bs} {F H : Hp} {σ : L2.St} {env : En}
theorem set_other {i j : Nat} {x y : Sv} (hi : i < env.length) (q : (env.set i x)[j]? = some y) : (j = i ∧ y = x) ∨ (j ≠ i ∧ env[j]? = some y) := by
  by_cases hj : j = i
  · subst hj
    rw [List.getElem?_set_self hi] at q
    cases q
    exact .inl ⟨rfl, rfl⟩
  · rw [List.getElem?_set_ne (Ne.symm hj)] at q
    exact .inr ⟨hj, q⟩
theorem set_tr {i j : Nat} {x : Sv} {s : Sh} {y : D} (hi : i < env.length) (nx : ∀ s d, x ≠ .tr s d ∧ x ≠ .tw s d) (q : IsTr (env.set i x) j s y) : j ≠ i ∧ IsTr env j s y := by
  rcases q with q | q
  · rcases set_other hi q with ⟨_, z⟩ | ⟨a, b⟩
    · exact absurd z.symm (nx _ _).1
    · exact ⟨a, .inl b⟩
  · rcases set_other hi q with ⟨_, z⟩ | ⟨a, b⟩
    · exact absurd z.symm (nx _ _).2
    · exact ⟨a, .inr b⟩
theorem sset_other {σ : L2.St} {i j : Nat} {x : Option V} (hj : j ≠ i) : (σ.set i x)[j]? = σ[j]? := List.getElem?_set_ne (Ne.symm hj)
theorem Sl.set (S : Sl K B F H σ env) {i : Nat} {v : V} {d : D} (hi : i < env.length) (np : ∀ d, env[i]? ≠ some (.pw d)) (hd : Dt K F v d) : Sl K B F H (σ.set i (some v)) (env.set i (.fz d)) := by
  have hs : i < σ.length := S.len ▸ hi
  have ow' : ∀ {j : Nat} {x : D}, IsOw (env.set i (.fz d)) j x → j ≠ i ∧ IsOw env j x := fun {j x} q => by
    rcases q with q | q
    · rcases set_other hi q with ⟨_, z⟩ | ⟨a, b⟩
      · cases z
      · exact ⟨a, .inl b⟩
    · rcases set_other hi q with ⟨_, z⟩ | ⟨a, b⟩
      · cases z
      · exact ⟨a, .inr b⟩
  refine ⟨S.fh, by simpa using S.len, fun j x q => ?_, fun j x q => ?_, fun j k x y p a b c d => ?_, fun q hq => ?_, S.f0, S.nw, S.kp, S.lc, fun q hq => ?_, S.lk, fun j s y q => by
    obtain ⟨hj, q⟩ := set_tr hi (fun _ _ => ⟨(by intro z; cases z), (by intro z; cases z)⟩) q
    rw [sset_other hj]; exact S.tr j s y q, S.mr, S.gv, S.kt, S.tb⟩
  · rcases set_other hi q with ⟨rfl, z⟩ | ⟨a, b⟩
    · cases z
      exact ⟨v, by rw [List.getElem?_set_self hs], hd⟩
    · rw [sset_other a]
      exact S.fz j x b
  · obtain ⟨hj, q⟩ := ow' q
    rw [sset_other hj]
    exact S.own j x q
  · obtain ⟨hj, a⟩ := ow' a
    obtain ⟨hk, b⟩ := ow' b
    rw [sset_other hj] at c
    rw [sset_other hk] at d
    exact S.ap j k x y p a b c d
  · obtain ⟨⟨x, hx⟩, h2⟩ := S.pm q hq
    have : q.1 ≠ i := by
      rintro z
      rw [z] at hx
      exact np x hx
    rw [List.getElem?_set_ne (Ne.symm this), sset_other this]
    exact ⟨⟨x, hx⟩, h2⟩
  · obtain ⟨g1, g2, g3, g4⟩ := S.hx q hq
    exact ⟨g1, g2, g3, fun j x h => by
      obtain ⟨hj, h⟩ := ow' h
      rw [sset_other hj]
      exact g4 j x h⟩
theorem Sl.setO (S : Sl K B F H σ env) {i : Nat} {p : Addr} {d : D} (hi : i < env.length) (np : ∀ d, env[i]? ≠ some (.pw d)) (n : F p = none) (n0 : B.H0 p = none) (no : ∀ j e, IsOw env j e → σ[j]? ≠ some (some (.ref p))) (nx : ∀ q ∈ B.X, q.1 ≠ p) (ho : Own K F H p d) : Sl K B F H (σ.set i (some (.ref p))) (env.set i (.ow d)) := by
  have hs : i < σ.length := S.len ▸ hi
  have ow' : ∀ {j : Nat} {x : D}, IsOw (env.set i (.ow d)) j x → (j = i ∧ x = d) ∨ (j ≠ i ∧ IsOw env j x) := fun {j x} q => by
    rcases q with q | q
    · rcases set_other hi q with ⟨a, z⟩ | ⟨a, b⟩
      · cases z; exact .inl ⟨a, rfl⟩
      · exact .inr ⟨a, .inl b⟩
    · rcases set_other hi q with ⟨_, z⟩ | ⟨a, b⟩
      · cases z
      · exact .inr ⟨a, .inr b⟩
  refine ⟨S.fh, by simpa using S.len, fun j x q => ?_, fun j x q => ?_, fun j k x y p' a b c d => ?_, fun q hq => ?_, S.f0, S.nw, S.kp, S.lc, fun q hq => ?_, S.lk, fun j s y q => by
    obtain ⟨hj, q⟩ := set_tr hi (fun _ _ => ⟨(by intro z; cases z), (by intro z; cases z)⟩) q
    rw [sset_other hj]; exact S.tr j s y q, S.mr, S.gv, S.kt, S.tb⟩
  · rcases set_other hi q with ⟨rfl, z⟩ | ⟨a, b⟩
    · cases z
    · rw [sset_other a]
      exact S.fz j x b
  · rcases ow' q with ⟨rfl, rfl⟩ | ⟨hj, q⟩
    · exact ⟨p, by rw [List.getElem?_set_self hs], n, ho, .inl n0⟩
    · rw [sset_other hj]
      exact S.own j x q
  · rcases ow' a with ⟨ha, _⟩ | ⟨hj, a⟩
    · rcases ow' b with ⟨hb, _⟩ | ⟨hk, b⟩
      · rw [ha, hb]
      · rw [sset_other hk] at d
        rw [ha, List.getElem?_set_self hs] at c
        cases c
        exact absurd d (no k y b)
    · rcases ow' b with ⟨hb, _⟩ | ⟨hk, b⟩
      · rw [sset_other hj] at c
        rw [hb, List.getElem?_set_self hs] at d
        cases d
        exact absurd c (no j x a)
      · rw [sset_other hj] at c
        rw [sset_other hk] at d
        exact S.ap j k x y p' a b c d
  · obtain ⟨⟨x, hx⟩, h2⟩ := S.pm q hq
    have : q.1 ≠ i := by
      rintro z
      rw [z] at hx
      exact np x hx
    rw [List.getElem?_set_ne (Ne.symm this), sset_other this]
    exact ⟨⟨x, hx⟩, h2⟩
  · obtain ⟨g1, g2, g3, g4⟩ := S.hx q hq
    refine ⟨g1, g2, g3, fun j x h => ?_⟩
    rcases ow' h with ⟨rfl, _⟩ | ⟨hj, h⟩
    · rw [List.getElem?_set_self hs]
      intro z
      cases z
      exact nx q hq rfl
    · rw [sset_other hj]
      exact g4 j x h
/-- a name's own object is changed -/
theorem Sl.chg (S : Sl K B F H σ env) {i : Nat} {p : Addr} {d d' : D} {o : HO} {x : Sv} (q : IsOw env i d) (hp : σ[i]? = some (some (.ref p))) (hx : (env[i]? = some (.ow d) ∧ x = .ow d') ∨ (env[i]? = some (.pw d) ∧ x = .pw d')) (ho : Own K F (upd H p o) p d') : Sl K B F (upd H p o) σ (env.set i x) := by
  obtain ⟨p', h1, h2, h3, h4⟩ := S.own i d q
  rw [hp] at h1; cases h1
  obtain ⟨o', ho', _⟩ := h3.some
  have hi : i < env.length := by
    rcases q with q | q <;> exact (List.getElem?_eq_some_iff.mp q).1
  have ow' : ∀ {j : Nat} {y : D}, IsOw (env.set i x) j y → (j = i ∧ y = d') ∨ (j ≠ i ∧ IsOw env j y) := fun {j y} z => by
    rcases z with z | z
    · rcases set_other hi z with ⟨a, w⟩ | ⟨a, b⟩
      · rcases hx with ⟨_, hx⟩ | ⟨_, hx⟩
        · rw [hx] at w; cases w; exact .inl ⟨a, rfl⟩
        · rw [hx] at w; cases w
      · exact .inr ⟨a, .inl b⟩
    · rcases set_other hi z with ⟨a, w⟩ | ⟨a, b⟩
      · rcases hx with ⟨_, hx⟩ | ⟨_, hx⟩
        · rw [hx] at w; cases w
        · rw [hx] at w; cases w; exact .inl ⟨a, rfl⟩
      · exact .inr ⟨a, .inr b⟩
  have owI : ∀ {j : Nat} {y : D}, IsOw (env.set i x) j y → ∃ z, IsOw env j z := fun {j y} z => by
    rcases ow' z with ⟨rfl, _⟩ | ⟨_, b⟩
    · exact ⟨_, q⟩
    · exact ⟨_, b⟩
  refine ⟨fun a u e => ?_, by simpa using S.len, fun j y z => ?_, fun j y z => ?_, fun j k y w p' a b c e => ?_, fun r hr => ?_, S.f0, S.nw, fun r u a b c g9 => ?_, fun r hr => ?_, fun r hr => ?_, fun a ob u e h => S.lk a ob u e (by
    have ne : a ≠ p := by
      rintro rfl
      rw [h2] at e; cases e
    rw [upd_ne ne] at h; exact h), fun j s y z => by
      obtain ⟨_, z⟩ := set_tr hi (fun s y => by rcases hx with ⟨_, hx⟩ | ⟨_, hx⟩ <;> (rw [hx]; exact ⟨(by intro z; cases z), (by intro z; cases z)⟩)) z
      obtain ⟨v, L, g1, g2, g3, g4⟩ := S.tr j s y z
      exact ⟨v, L, g1, g2, g3, fun q hq => ⟨by rw [upd_ne (ne_of_none (g4 q hq).2 h2)]; exact (g4 q hq).1, (g4 q hq).2⟩⟩, S.mr, fun a g => ⟨by
      by_cases z : a = p
      · subst z; rw [upd_same]; exact fun z => nomatch z
      · rw [upd_ne z]; exact (S.gv a g).1, (S.gv a g).2⟩, fun a ks h => by
      by_cases z : a = p
      · subst z; rw [upd_same] at h; exact (ho.notup (by rw [upd_same]; exact h)).elim
      · rw [upd_ne z] at h; exact S.kt a ks h, ⟨tabs_chg S.tb.now ho' (h3.ntc ho'), S.tb.at0, S.tb.nf⟩⟩
  · have ne : a ≠ p := by
      rintro rfl
      rw [h2] at e; cases e
    rw [upd_ne ne]
    exact S.fh a u e
  · rcases set_other hi z with ⟨_, w⟩ | ⟨a, b⟩
    · rcases hx with ⟨_, hx⟩ | ⟨_, hx⟩ <;> (rw [hx] at w; cases w)
    · exact S.fz j y b
  · rcases ow' z with ⟨rfl, rfl⟩ | ⟨hj, z⟩
    · exact ⟨p, hp, h2, ho, h4⟩
    · obtain ⟨r, g1, g2, g3, g4⟩ := S.own j y z
      have ne : r ≠ p := by
        rintro rfl
        exact hj (S.ap j i y d r z q g1 hp)
      exact ⟨r, g1, g2, g3.mono (Sub.refl _) fun u hu => by rw [upd_ne ne]; exact hu, g4⟩
  · obtain ⟨_, a⟩ := owI a
    obtain ⟨_, b⟩ := owI b
    exact S.ap j k _ _ p' a b c e
  · obtain ⟨⟨y, hy⟩, h5⟩ := S.pm r hr
    refine ⟨?_, h5⟩
    by_cases e : r.1 = i
    · rcases hx with ⟨g, _⟩ | ⟨_, hx⟩
      · rw [e, g] at hy; cases hy
      · exact ⟨d', by rw [e, List.getElem?_set_self hi, hx]⟩
    · exact ⟨y, by rw [List.getElem?_set_ne (Ne.symm e)]; exact hy⟩
  · have ne : r ≠ p := by
      rintro rfl
      rcases h4 with h4 | ⟨j, hj⟩
      · rw [h4] at a; cases a
      · exact b j hj
    rw [upd_ne ne]
    exact S.kp r u a b c g9
  · obtain ⟨g1, g2⟩ := S.lc r hr
    exact ⟨by rw [upd_ne (fun z => by rw [z, h2] at g2; cases g2)]; exact g1, g2⟩
  · obtain ⟨g1, g2, g3, g4⟩ := S.hx r hr
    have ne : r.1 ≠ p := fun z => g4 i d q (by rw [z]; exact hp)
    exact ⟨by rw [upd_ne ne]; exact g1, g2, g3, fun j y h => by
      obtain ⟨_, h⟩ := owI h
      exact g4 j _ h⟩
end

/-! ### statements -/
/-- an exception as data: its class's name, its one field -/
structure Ex where
  c : Str
  fld : Option (Str × D)
/-- whither raised things go -/
structure Wh where
  W : WX
def ExOk (K : Fg) (H0 : Hp) (X0 : List (Addr × HO)) (F H : Hp) (x : Ex) (cls : Value) (dd : Option Addr) : Prop := (∃ C, K.mg x.c = some (.ref C) ∧ cls = .ref C) ∧ match x.fld with
  | none => dd = none
  | some (f, d) => ∃ a v, dd = some a ∧ H0 a = none ∧ (∀ q ∈ X0, q.1 ≠ a) ∧ F a = none ∧ H a = some (.xd [(f, v)]) ∧ Dt K F v d
inductive Rs where
  | nx (e : En) | bk (e : En) | ct (e : En) | rt (d : D) (e : En) | rn (d : D) (e : En) | rm (s : Sh) (d : D) (e : En) | xx (x : Ex) (e : En)
abbrev Sf := En → Option Rs
def EndOk (K : Fg) (wh : Wh) (B : Bs) (F : Hp) (E : Ends) : Rs → Prop
  | .nx e => ∀ σ' F' H', Sl K B F' H' σ' e → Sub F F' → E.nx σ' H'
  | .bk e => ∀ σ' F' H', Sl K B F' H' σ' e → Sub F F' → E.bk σ' H'
  | .ct e => ∀ σ' F' H', Sl K B F' H' σ' e → Sub F F' → E.ct σ' H'
  | .rt d e => ∀ v σ' F' H', Sl K B F' H' σ' e → Sub F F' → Dt K F' v d → E.rt v H'
  | .rn d e => ∀ p σ' F' H', Sl K B F' H' σ' e → Sub F F' → F' p = none → B.H0 p = none → Own K F' H' p d → E.rt (.ref p) H'
  | .rm s d e => ∀ v L σ' F' H', Sl K B F' H' σ' e → Sub F F' → Tr K F' s v d L → Ndp L → (∀ q ∈ L, H' q.1 = some q.2 ∧ F' q.1 = none ∧ B.H0 q.1 = none) → E.rt v H'
  | .xx x e => ∀ cls dd σ' F' H', Sl K B F' H' σ' e → Sub F F' → ExOk K B.H0 B.X F' H' x cls dd → wh.W cls dd σ' H'
theorem EndOk.mono {wh : Wh} {K : Fg} {B : Bs} {F G : Hp} {E : Ends} {r : Rs} (h : EndOk K wh B F E r) (s : Sub F G) : EndOk K wh B G E r := by
  cases r with
  | nx e => exact fun σ' F' H' S s' => h σ' F' H' S (s.trans s')
  | bk e => exact fun σ' F' H' S s' => h σ' F' H' S (s.trans s')
  | ct e => exact fun σ' F' H' S s' => h σ' F' H' S (s.trans s')
  | rt d e => exact fun v σ' F' H' S s' => h v σ' F' H' S (s.trans s')
  | rn d e => exact fun p σ' F' H' S s' => h p σ' F' H' S (s.trans s')
  | rm s0 d e => exact fun v L σ' F' H' S s' => h v L σ' F' H' S (s.trans s')
  | xx x e => exact fun cls dd σ' F' H' S s' => h cls dd σ' F' H' S (s.trans s')
def tS (K : Fg) (wh : Wh) (f : Sf) : TS := fun E σ H => ∃ B F env r, Sl K B F H σ env ∧ f env = some r ∧ EndOk K wh B F E r
def sNx : Sf := fun env => some (.nx env)
def sq (f g : Sf) : Sf := fun env => (f env).bind fun r => match r with
  | .nx e => g e
  | r => some r
def sIf (c : Bf) (f g : Sf) : Sf := fun env => (c env).bind fun r => if r.1 = true then f r.2 else g r.2
def sSet (i : Nat) (f : Df) : Sf := fun env => (f env).bind fun r => (put i (.fz r.1) r.2).bind fun e => some (.nx e)
def sSetN (i : Nat) (f : Df) : Sf := fun env => (f env).bind fun r => (put i (.ow r.1) r.2).bind fun e => some (.nx e)
def sDrop (f : Df) : Sf := fun env => (f env).bind fun r => some (.nx r.2)
def sRet (f : Df) : Sf := fun env => (f env).bind fun r => some (.rt r.1 r.2)
def sRetN (f : Df) : Sf := fun env => (f env).bind fun r => some (.rn r.1 r.2)
/-- one's own object is handed back -/
def sRetO (i : Nat) : Sf := fun env => match env[i]? with
  | some (.ow d) => some (.rn d env)
  | _ => none
section
variable {X : Cx} {Tb : TbT} {e : Expr} {st : Stmt} {rest : List Stmt} {pos : Pos}
theorem ds_nil {wh : Wh} : PSs X [] (tS (X.kg Tb) wh sNx) := PSsi pss_nil fun E σ H ⟨B, F, env, r, S, ef, k⟩ => by
  cases ef
  exact k σ F H S (Sub.refl F)
theorem ds_cons {wh : Wh} {f g : Sf} (h1 : PS X st (tS (X.kg Tb) wh f)) (h2 : PSs X rest (tS (X.kg Tb) wh g)) : PSs X (st :: rest) (tS (X.kg Tb) wh (sq f g)) := PSsi (pss_cons h1 h2) fun E σ H ⟨B, F, env, r, S, ef, k⟩ => by
  obtain ⟨r1, q, ef⟩ := bd ef
  refine ⟨B, F, env, r1, S, q, ?_⟩
  cases r1 with
  | nx e1 => exact fun σ' F' H' S' s' => ⟨B, F', e1, r, S', ef, k.mono s'⟩
  | bk e1 => cases ef; exact k
  | ct e1 => cases ef; exact k
  | rt d e1 => cases ef; exact k
  | rn d e1 => cases ef; exact k
  | rm s0 d e1 => cases ef; exact k
  | xx x e1 => cases ef; exact k
theorem ds_one {wh : Wh} {f : Sf} (h1 : PS X st (tS (X.kg Tb) wh f)) : PSs X [st] (tS (X.kg Tb) wh f) := pss_one h1
theorem dS_if {wh : Wh} {c : Expr} {a b : List Stmt} {t : Bf} {f g : Sf} (hc : PT X c (tT (X.kg Tb) t)) (ha : PSs X a (tS (X.kg Tb) wh f)) (hb : PSs X b (tS (X.kg Tb) wh g)) : PS X (.If c a b pos) (tS (X.kg Tb) wh (sIf t f g)) := PSi (ps_if hc ha hb) fun E σ H ⟨B, F, env, r, S, ef, k⟩ => by
  obtain ⟨⟨c, e1⟩, q, ef⟩ := bd ef
  refine ⟨B, F, env, c, e1, S, q, fun F1 H1 S1 s1 => ?_⟩
  cases c with
  | true =>
    rw [if_pos rfl]
    rw [if_pos rfl] at ef
    exact ⟨B, F1, e1, r, S1, ef, k.mono s1⟩
  | false =>
    rw [if_neg Bool.false_ne_true]
    rw [if_neg Bool.false_ne_true] at ef
    exact ⟨B, F1, e1, r, S1, ef, k.mono s1⟩
theorem dS_pass {wh : Wh} : PS X (.Pass pos) (tS (X.kg Tb) wh sNx) := PSi ps_pass fun E σ H ⟨B, F, env, r, S, ef, k⟩ => by
  cases ef
  exact k σ F H S (Sub.refl F)
def sBk : Sf := fun env => some (.bk env)
def sCt : Sf := fun env => some (.ct env)
theorem dS_break {wh : Wh} : PS X (.Break pos) (tS (X.kg Tb) wh sBk) := PSi ps_break fun E σ H ⟨B, F, env, r, S, ef, k⟩ => by
  cases ef
  exact k σ F H S (Sub.refl F)
theorem dS_continue {wh : Wh} : PS X (.Continue pos) (tS (X.kg Tb) wh sCt) := PSi ps_continue fun E σ H ⟨B, F, env, r, S, ef, k⟩ => by
  cases ef
  exact k σ F H S (Sub.refl F)
theorem dS_drop {wh : Wh} {f : Df} (he : PE X e (tD (X.kg Tb) f)) (hs : swapsWith e none pos.line X.env = pure false := by rfl) : PS X (.Expr e pos) (tS (X.kg Tb) wh (sDrop f)) := PSi (ps_expr he hs) fun E σ H ⟨B, F, env, r, S, ef, k⟩ => by
  obtain ⟨⟨d, e1⟩, q, ef⟩ := bd ef
  cases ef
  exact ⟨B, F, env, d, e1, S, q, fun v F' H' S' s' _ => k σ F' H' S' s'⟩
theorem dS_ret {wh : Wh} {f : Df} (he : PE X e (tD (X.kg Tb) f)) : PS X (.Return (some e) pos) (tS (X.kg Tb) wh (sRet f)) := PSi (ps_ret he) fun E σ H ⟨B, F, env, r, S, ef, k⟩ => by
  obtain ⟨⟨d, e1⟩, q, ef⟩ := bd ef
  cases ef
  exact ⟨B, F, env, d, e1, S, q, fun v F' H' S' s' hd => k v σ F' H' S' s' hd⟩
theorem dS_retN {wh : Wh} {f : Df} (he : PE X e (tN (X.kg Tb) f)) : PS X (.Return (some e) pos) (tS (X.kg Tb) wh (sRetN f)) := PSi (ps_ret he) fun E σ H ⟨B, F, env, r, S, ef, k⟩ => by
  obtain ⟨⟨d, e1⟩, q, ef⟩ := bd ef
  cases ef
  exact ⟨B, F, env, d, e1, S, q, fun p F' H' S' s' n n0 _ _ ho => k p σ F' H' S' s' n n0 ho⟩
theorem dS_retO {wh : Wh} (i : Nat) {x : Str} {p : Pos} (hN : X.N[i]? = some x := by rfl) (hv : Vis X.env.scope x := by first | exact Or.inl rfl | exact Or.inr (Or.inl rfl) | exact Or.inr (Or.inr rfl)) (hd : (x == ("__debug__" : Str)) = false := by decide)
    (hcd : (x == ("__classdict__" : Str)) = false := by decide) : PS X (.Return (some (.Name x p)) pos) (tS (X.kg Tb) wh (sRetO i)) := PSi (ps_ret (pe_var hN hv hd hcd)) fun E σ H ⟨B, F, env, r, S, ef, k⟩ => by
  unfold sRetO at ef
  split at ef
  · rename_i d q
    cases ef
    obtain ⟨p, h1, h2, h3, h4⟩ := S.own i d (.inl q)
    refine ⟨_, h1, k p σ F H S (Sub.refl F) h2 ?_ h3⟩
    rcases h4 with h4 | ⟨j, hj⟩
    · exact h4
    · obtain ⟨⟨d', hd'⟩, hs⟩ := S.pm (j, p) hj
      have := S.ap i j d d' p (.inl q) (.inr hd') h1 hs
      subst this
      rw [q] at hd'; cases hd'
  · cases ef
theorem dS_retNone {wh : Wh} : PS X (.Return none pos) (tS (X.kg Tb) wh (sRet (eC .none))) := PSi ps_retN fun E σ H ⟨B, F, env, r, S, ef, k⟩ => by
  cases ef
  exact k _ σ F H S (Sub.refl F) .non
theorem dS_set {wh : Wh} {i : Nat} {x : Str} {f : Df} {pos' : Pos} (hN : X.N.Nodup) (he : PE X e (tD (X.kg Tb) f)) (hi : X.N[i]? = some x := by rfl) (hx : Loc X.env.scope x := by first | exact Or.inl rfl | exact Or.inr rfl) (hs : swapsWith e (some (.Name x pos')) pos.line X.env = pure false := by rfl) (hf : X.fn x = true ∨ X.env.scope.names.lookup x = some .local := by first | exact .inl rfl | exact .inr rfl | assumption) :
    PS X (.Assign [.Name x pos'] e pos) (tS (X.kg Tb) wh (sSet i f)) := PSi (ps_set hN hi hx he hs hf) fun E σ H ⟨B, F, env, r, S, ef, k⟩ => by
  obtain ⟨⟨d, e1⟩, q, ef⟩ := bd ef
  obtain ⟨e2, q2, ef⟩ := bd ef
  cases ef
  obtain ⟨hi', np, rfl⟩ := put_inv q2
  exact ⟨B, F, env, d, e1, S, q, fun v F' H' S' s' hd => k _ F' H' (S'.set hi' np hd) s'⟩
theorem dS_setN {wh : Wh} {i : Nat} {x : Str} {f : Df} {pos' : Pos} (hN : X.N.Nodup) (he : PE X e (tN (X.kg Tb) f)) (hi : X.N[i]? = some x := by rfl) (hx : Loc X.env.scope x := by first | exact Or.inl rfl | exact Or.inr rfl) (hs : swapsWith e (some (.Name x pos')) pos.line X.env = pure false := by rfl) (hf : X.fn x = true ∨ X.env.scope.names.lookup x = some .local := by first | exact .inl rfl | exact .inr rfl | assumption) :
    PS X (.Assign [.Name x pos'] e pos) (tS (X.kg Tb) wh (sSetN i f)) := PSi (ps_set hN hi hx he hs hf) fun E σ H ⟨B, F, env, r, S, ef, k⟩ => by
  obtain ⟨⟨d, e1⟩, q, ef⟩ := bd ef
  obtain ⟨e2, q2, ef⟩ := bd ef
  cases ef
  obtain ⟨hi', np, rfl⟩ := put_inv q2
  exact ⟨B, F, env, d, e1, S, q, fun p F' H' S' s' n n0 no nx ho => k _ F' H' (S'.setO hi' np n n0 no nx ho) s'⟩
end

/-! ### targets -/
abbrev Tg := D → En → Option En
/-- the slots but ts are as they were -/
def But (ts : List Nat) (σ σ' : L2.St) : Prop := σ'.length = σ.length ∧ ∀ j, j ∉ ts → σ'[j]? = σ[j]?
def gD (K : Fg) (t : Tg) (ts : List Nat) : TG := fun v σ H Q => ∃ B F env d env', Sl K B F H σ env ∧ Dt K F v d ∧ t d env = some env' ∧ ∀ σ' F' H', Sl K B F' H' σ' env' → Sub F F' → But ts σ σ' → Q σ' H'
def gsD (K : Fg) (t : List D → En → Option En) (ts : List Nat) : TGs := fun vs σ H Q => ∃ B F env ds env', Sl K B F H σ env ∧ DtA K F vs ds ∧ t ds env = some env' ∧ ∀ σ' F' H', Sl K B F' H' σ' env' → Sub F F' → But ts σ σ' → Q σ' H'
def tgName (i : Nat) : Tg := fun d env => put i (.fz d) env
def tgsNil : List D → En → Option En := fun ds env => match ds with
  | [] => some env
  | _ => none
def tgsCons (t : Tg) (r : List D → En → Option En) : List D → En → Option En := fun ds env => match ds with
  | d :: ds => (t d env).bind fun e => r ds e
  | [] => none
def tgTup (r : List D → En → Option En) : Tg := fun d env => match d with
  | .tuple ds => r ds env
  | _ => none
section
variable {X : Cx} {Tb : TbT} {e : Expr} {es : List Expr} {pos : Pos}
theorem PGi {t u : TG} (h : PG X e t) (le : ∀ v σ H Q, u v σ H Q → t v σ H Q) : PG X e u := ⟨fun pins s σ H v w Q I r q => h.run pins s σ H v w Q I r (le v σ H Q q)⟩
theorem PGsi {t u : TGs} (h : PGs X es t) (le : ∀ v σ H Q, u v σ H Q → t v σ H Q) : PGs X es u := ⟨fun pins s σ H v w Q I r q => h.run pins s σ H v w Q I r (le v σ H Q q)⟩
theorem dg_name (i : Nat) {x : Str} (hN : X.N.Nodup) (hi : X.N[i]? = some x := by rfl) (hx : Loc X.env.scope x := by first | exact Or.inl rfl | exact Or.inr rfl) (hf : X.fn x = true ∨ X.env.scope.names.lookup x = some .local := by first | exact .inl rfl | exact .inr rfl | assumption) : PG X (.Name x pos) (gD (X.kg Tb) (tgName i) [i]) :=
  PGi (pg_name hN hi hx hf) fun v σ H Q ⟨B, F, env, d, env', S, hd, et, k⟩ => by
    obtain ⟨hi', np, rfl⟩ := put_inv et
    exact k _ F H (S.set hi' np hd) (Sub.refl F) ⟨by simp, fun j hj => sset_other (by simpa using hj)⟩
theorem dgs_nil : PGs X [] (gsD (X.kg Tb) tgsNil []) := PGsi pgs_nil fun v σ H Q ⟨B, F, env, ds, env', S, hd, et, k⟩ => by
  cases hd with
  | nil => cases et; exact ⟨rfl, k σ F H S (Sub.refl F) ⟨rfl, fun _ _ => rfl⟩⟩
  | cons _ _ => cases et
theorem dgs_cons {t : Tg} {r : List D → En → Option En} {ts us : List Nat} (h1 : PG X e (gD (X.kg Tb) t ts)) (h2 : PGs X es (gsD (X.kg Tb) r us)) (hs : (assignEach (e :: es) X.env).map (·.2) = assign e X.env :: (assignEach es X.env).map (·.2) := by rfl) : PGs X (e :: es) (gsD (X.kg Tb) (tgsCons t r) (ts ++ us)) :=
  PGsi (pgs_cons h1 h2 hs) fun v σ H Q ⟨B, F, env, ds, env', S, hd, et, k⟩ => by
    cases hd with
    | nil => cases et
    | cons h hd =>
      obtain ⟨e1, q, et⟩ := bd et
      exact ⟨_, _, rfl, B, F, env, _, e1, S, h, q, fun σ1 F1 H1 S1 s1 b1 => ⟨B, F1, e1, _, env', S1, hd.mono s1, et, fun σ2 F2 H2 S2 s2 b2 => k σ2 F2 H2 S2 (s1.trans s2) ⟨b2.1.trans b1.1, fun j hj => (b2.2 j fun z => hj (List.mem_append_right _ z)).trans (b1.2 j fun z => hj (List.mem_append_left _ z))⟩⟩⟩
/-- how many a row of targets takes -/
def Takes' (r : List D → En → Option En) (n : Nat) : Prop := ∀ ds env e, r ds env = some e → ds.length = n
theorem takes_nil : Takes' tgsNil 0 := fun ds env e h => by
  cases ds with
  | nil => rfl
  | cons _ _ => cases h
theorem takes_cons {t : Tg} {r : List D → En → Option En} {n : Nat} (h : Takes' r n) : Takes' (tgsCons t r) (n + 1) := fun ds env e q => by
  cases ds with
  | nil => cases q
  | cons d ds =>
    obtain ⟨e1, _, q⟩ := bd q
    exact congrArg Nat.succ (h ds e1 e q)
theorem dg_tup {k n : Nat} {r : List D → En → Option En} {ts : List Nat} (hc : X.calm = true) (h : PGs X es (gsD (X.kg Tb) r ts)) (ht : Takes' r n)
    (hn : (assignEach es X.env).length = n := by rfl) (hst : (assignEach es X.env).findIdx? (·.1) = none := by rfl) : PG X (.Tuple es k pos) (gD (X.kg Tb) (tgTup r) ts) :=
  PGi (pg_tup hc h hn hst) fun v σ H Q ⟨B, F, env, d, env', S, hd, et, k⟩ => by
    unfold tgTup at et
    split at et
    · rename_i ds
      cases hd with
      | tup hq hd =>
        refine ⟨_, _, rfl, SqT.of (S.fh.tup hq), ?_, B, F, env, ds, env', S, hd, et, k⟩
        rw [hd.length]
        exact ht ds env env' et
    · cases et
/-- several names at once -/
def sUnp (t : Tg) (f : Df) : Sf := fun env => (f env).bind fun r => (t r.1 r.2).bind fun e => some (.nx e)
theorem dS_unp {wh : Wh} {tg : Expr} {t : Tg} {ts : List Nat} {f : Df} (he : PE X e (tD (X.kg Tb) f)) (hg : PG X tg (gD (X.kg Tb) t ts)) (hs : swapsWithSole [tg] e pos.line X.env = pure false := by rfl) (hw : swappedStores [tg] e X.env = pure none := by rfl)
    (h1 : (assignEach [tg] X.env).map (·.2) = [assign tg X.env] := by rfl) : PS X (.Assign [tg] e pos) (tS (X.kg Tb) wh (sUnp t f)) := PSi (ps_asg he hg hs hw h1) fun E σ H ⟨B, F, env, r, S, ef, k⟩ => by
  obtain ⟨⟨d, e1⟩, q, ef⟩ := bd ef
  obtain ⟨e2, q2, ef⟩ := bd ef
  cases ef
  exact ⟨B, F, env, d, e1, S, q, fun v F' H' S' s' hd => ⟨B, F', e1, d, e2, S', hd, q2, fun σ2 F2 H2 S2 s2 _ => k σ2 F2 H2 S2 (s'.trans s2)⟩⟩
end
end DL

/-! DLd: defs and their calls. -/
namespace DL
open PySem L2

/-- behind something that changed the objects Ch, each one's own -/
theorem Sl.after {K : Fg} {B : Bs} {F H F' H' : Hp} {σ : L2.St} {env env' : En} (S : Sl K B F H σ env) (fh : Lk F' H') (s : Sub F F') (nw : ∀ p, F p = none → F' p ≠ none → H p = none ∧ ∀ ob u, F' p = some u → H' p ≠ some (.frz ob u)) (Ch : Addr → Prop)
    (kp : ∀ p o, H p = some o → ¬ Ch p → ¬ K.tb p → H' p = some o) (ln : env'.length = env.length) (hfz : ∀ (j : Nat) (d : D), env'[j]? = some (.fz d) → env[j]? = some (.fz d))
    (how : ∀ (j : Nat) (d : D), IsOw env' j d → ∃ d0, IsOw env j d0 ∧ ∀ p, σ[j]? = some (some (.ref p)) → (d = d0 ∧ ¬ Ch p) ∨ Own K F' H' p d)
    (hpw : ∀ (j : Nat) (d : D), env[j]? = some (.pw d) → ∃ d', env'[j]? = some (.pw d')) (hch : ∀ p, Ch p → (∃ j d, IsOw env j d ∧ σ[j]? = some (some (.ref p))) ∧ H' p ≠ none)
    (htr : ∀ (j : Nat) (s : Sh) (d : D), IsTr env' j s d → IsTr env j s d) (hmk : ∀ a m, F a = some (.own m) → F' a = some (.own m)) (hmn : ∀ a m, F' a = some (.own m) → F a = some (.own m)) (hkt : KT F' H') (htb : LamX.Tabs K.T H') : Sl K B F' H' σ env' := by
  have owF : ∀ {j : Nat} {d : D} {p : Addr}, IsOw env j d → σ[j]? = some (some (.ref p)) → F' p = none := fun {j d p} o e => by
    obtain ⟨q, h1, h2, h3, _⟩ := S.own j d o
    rw [e] at h1; cases h1
    cases q : F' p with
    | none => rfl
    | some u =>
      obtain ⟨w, hw, _⟩ := h3.some
      have := (nw p h2 (by rw [q]; exact fun z => nomatch z)).1
      rw [this] at hw; cases hw
  refine ⟨fh, by rw [ln]; exact S.len, fun j d e => ?_, fun j d e => ?_, fun i j d e p a b c f => ?_, fun q hq => ?_, S.f0.trans s, fun p a b => ?_, fun p o a b c g9 => ?_, fun p hp => ?_, fun q hq => ?_, fun a ob u e h => ?_, fun j s' d e => ?_, fun a m e => S.mr a m (hmn a m e), fun a g => ⟨?_, (S.gv a g).2⟩, hkt, ⟨htb, S.tb.at0, S.tb.nf⟩⟩
  rotate_right
  · by_cases hc : Ch a
    · exact (hch a hc).2
    · cases q : H a with
      | none => exact absurd q (S.gv a g).1
      | some o =>
        by_cases ht : K.tb a
        · obtain ⟨ps, z⟩ := tabs_at htb ht
          rw [z]; exact fun z => nomatch z
        · rw [kp a o q hc ht]; exact fun z => nomatch z
  rotate_right
  · obtain ⟨v, L, g1, g2, g3, g4⟩ := S.tr j s' d (htr j s' d e)
    refine ⟨v, L, g1, g2.mono s, g3, fun q hq => ⟨kp _ _ (g4 q hq).1 (fun hc => ?_) (S.ntF (g4 q hq).2), hmk _ _ (g4 q hq).2⟩⟩
    obtain ⟨⟨i, d', o1, o2⟩, _⟩ := hch _ hc
    obtain ⟨p', h1, h2, _⟩ := S.own i d' o1
    rw [o2] at h1; cases h1
    rw [(g4 q hq).2] at h2; cases h2
  rotate_right
  · cases q : F a with
    | none => exact absurd h ((nw a q (by rw [e]; exact fun z => nomatch z)).2 ob u e)
    | some u' =>
      obtain rfl : u = u' := by
        cases hm : Mk u' with
        | false =>
          have e' := s _ _ q hm
          rw [e] at e'; cases e'; rfl
        | true =>
          cases u' <;> cases hm
          rw [hmk _ _ q] at e; cases e; rfl
      have nc : ¬ Ch a := fun hc => by
        obtain ⟨⟨j, d, o1, o2⟩, _⟩ := hch _ hc
        obtain ⟨p', h1, h2, _⟩ := S.own j d o1
        rw [o2] at h1; cases h1
        rw [h2] at q; cases q
      rcases S.fh a _ q with g | ⟨_, ob', g⟩ | ⟨_, g⟩
      · have := kp _ _ g nc (S.ntF q)
        rw [h] at this
        exact absurd (Option.some.inj this).symm frz_ne
      · have := kp _ _ g nc (S.ntF q)
        rw [h] at this; cases this
        exact S.lk a ob u q g
      · cases q' : H a with
        | none => exact absurd q' g
        | some w =>
          have := kp _ _ q' nc (S.ntF q)
          rw [h] at this; cases this
          exact S.lk a ob u q q'
  · obtain ⟨v, h1, h2⟩ := S.fz j d (hfz j d e)
    exact ⟨v, h1, h2.mono s⟩
  · obtain ⟨d0, o, hd⟩ := how j d e
    obtain ⟨p, h1, h2, h3, h4⟩ := S.own j d0 o
    refine ⟨p, h1, owF o h1, ?_, h4⟩
    rcases hd p h1 with ⟨rfl, nc⟩ | h
    · exact h3.mono s fun u hu => kp p u hu nc (S.ntO hu (h3.ntc hu))
    · exact h
  · obtain ⟨_, a, _⟩ := how i d a
    obtain ⟨_, b, _⟩ := how j e b
    exact S.ap i j _ _ p a b c f
  · obtain ⟨⟨d, h1⟩, h2⟩ := S.pm q hq
    exact ⟨hpw _ d h1, h2⟩
  · by_cases h : F p = none
    · exact S.fresh (nw p h b).1
    · exact S.nw p a h
  · refine kp p o (S.kp p o a b c g9) (fun hc => ?_) fun z => g9 (S.tb.nf p z).2
    obtain ⟨⟨j, d, o1, o2⟩, _⟩ := hch p hc
    obtain ⟨p', h1, _, _, h4⟩ := S.own j d o1
    rw [o2] at h1; cases h1
    rcases h4 with h4 | ⟨k, hk⟩
    · rw [h4] at a; cases a
    · exact b k hk
  · obtain ⟨g1, g2⟩ := S.lc p hp
    refine ⟨kp _ _ g1 (fun hc => ?_) (S.ntF g2), ?_⟩
    · obtain ⟨⟨j, d, o1, o2⟩, _⟩ := hch _ hc
      obtain ⟨p', h1, h2, _⟩ := S.own j d o1
      rw [o2] at h1; cases h1
      rw [h2] at g2; cases g2
    · cases hm : Mk p.2.2 with
      | false => exact s _ _ g2 hm
      | true =>
        revert g2 hm
        cases p.2.2 <;> intro g2 hm <;> cases hm
        exact hmk _ _ g2
  · obtain ⟨g1, g2, g3, g4⟩ := S.hx q hq
    have nc : ¬ Ch q.1 := fun hc => by
      obtain ⟨⟨j, d, o1, o2⟩, _⟩ := hch _ hc
      exact g4 j d o1 o2
    refine ⟨kp _ _ g1 nc (S.nt0 g3), ?_, g3, fun j d o => ?_⟩
    · cases z : F' q.1 with
      | none => rfl
      | some u =>
        have := (nw q.1 g2 (by rw [z]; exact fun w => nomatch w)).1
        rw [this] at g1; cases g1
    · obtain ⟨d0, o, _⟩ := how j d o
      exact g4 j d0 o
/-- behind something that changed nothing -/
theorem Sl.extT {K : Fg} {B : Bs} {F H F' H' : Hp} {σ : L2.St} {env : En} (S : Sl K B F H σ env) (fh : Lk F' H') (s : Sub F F') (nw : ∀ p, F p = none → F' p ≠ none → H p = none ∧ ∀ ob u, F' p = some u → H' p ≠ some (.frz ob u)) (kp : ∀ p o, H p = some o → ¬ K.tb p → H' p = some o) (hmk : ∀ a m, F a = some (.own m) → F' a = some (.own m)) (hmn : ∀ a m, F' a = some (.own m) → F a = some (.own m)) (hkt : KT F' H') (htb : LamX.Tabs K.T H') : Sl K B F' H' σ env :=
  S.after fh s nw (fun _ => False) (fun p o e _ => kp p o e) rfl (fun _ _ e => e) (fun j d o => ⟨d, o, fun _ _ => .inl ⟨rfl, fun z => z⟩⟩) (fun j d e => ⟨d, e⟩) (fun _ z => z.elim) (fun _ _ _ e => e) hmk hmn hkt htb
theorem Sl.ext {K : Fg} {B : Bs} {F H F' H' : Hp} {σ : L2.St} {env : En} (S : Sl K B F H σ env) (fh : Lk F' H') (s : Sub F F') (nw : ∀ p, F p = none → F' p ≠ none → H p = none ∧ ∀ ob u, F' p = some u → H' p ≠ some (.frz ob u)) (kp : ∀ p o, H p = some o → H' p = some o) (hmk : ∀ a m, F a = some (.own m) → F' a = some (.own m)) (hmn : ∀ a m, F' a = some (.own m) → F a = some (.own m)) (hkt : KT F' H') : Sl K B F' H' σ env :=
  S.extT fh s nw (fun p o e _ => kp p o e) hmk hmn hkt (tabs_step S.tb.now fun b o e _ => kp b o e)

/-! ### what a def promises -/
inductive ArgsOk (K : Fg) (F H : Hp) : Nat → List Bool → List V → List D → List (Nat × Addr) → Prop
  | nil {n : Nat} : ArgsOk K F H n [] [] [] []
  | fz {n : Nat} {fl : List Bool} {v : V} {vs : List V} {d : D} {ds : List D} {M : List (Nat × Addr)} : Dt K F v d → ArgsOk K F H (n + 1) fl vs ds M → ArgsOk K F H n (false :: fl) (v :: vs) (d :: ds) M
  | ow {n : Nat} {fl : List Bool} {p : Addr} {vs : List V} {d : D} {ds : List D} {M : List (Nat × Addr)} : F p = none → Own K F H p d → ArgsOk K F H (n + 1) fl vs ds M → ArgsOk K F H n (true :: fl) (.ref p :: vs) (d :: ds) ((n, p) :: M)
def entry : List Bool → List D → En
  | false :: fl, d :: ds => .fz d :: entry fl ds
  | true :: fl, d :: ds => .pw d :: entry fl ds
  | _, _ => []
def env0 (n : Nat) (fl : List Bool) (ds : List D) : En := entry fl ds ++ List.replicate (n - fl.length) .un
def slotsOf : Nat → List Bool → List Nat
  | _, [] => []
  | n, true :: fl => n :: slotsOf (n + 1) fl
  | n, false :: fl => slotsOf (n + 1) fl
def outsAt : List Nat → En → Option (List D)
  | [], _ => some []
  | i :: r, e => match e[i]? with
    | some (.pw d) => (outsAt r e).bind fun ds => some (d :: ds)
    | _ => none
def OutsOk (K : Fg) (F H : Hp) : List (Nat × Addr) → List D → Prop
  | [], [] => True
  | q :: M, d :: os => (F q.2 = none ∧ Own K F H q.2 d) ∧ OutsOk K F H M os
  | _, _ => False
/-- what a body is worth: arguments, the value and what came of the caller's objects -/
def gOf (n : Nat) (fl : List Bool) (body : Sf) (ds : List D) : Option (D × List D) := if ds.length = fl.length then (body (env0 n fl ds)).bind fun r => match r with
  | .nx e => (outsAt (slotsOf 0 fl) e).bind fun os => some (.none, os)
  | .rt d e => (outsAt (slotsOf 0 fl) e).bind fun os => some (d, os)
  | _ => none else none
def gOfM (n : Nat) (fl : List Bool) (s : Sh) (body : Sf) (ds : List D) : Option (D × List D) := if ds.length = fl.length then (body (env0 n fl ds)).bind fun r => match r with
  | .rm s' d e => if s' = s then (outsAt (slotsOf 0 fl) e).bind fun os => some (d, os) else none
  | _ => none else none
def gOfN (n : Nat) (fl : List Bool) (body : Sf) (ds : List D) : Option (D × List D) := if ds.length = fl.length then (body (env0 n fl ds)).bind fun r => match r with
  | .rn d e => (outsAt (slotsOf 0 fl) e).bind fun os => some (d, os)
  | _ => none else none
def Apart (M : List (Nat × Addr)) : Prop := ∀ i j p, (i, p) ∈ M → (j, p) ∈ M → i = j
/-- what comes back: something of the others, a new object, a new tree -/
inductive Rk where
  | fz | nw | tr (s : Sh)
def RetOk (K : Fg) (rk : Rk) (H F' H' : Hp) (v : V) (d : D) : Prop := match rk with
  | .nw => ∃ p, v = .ref p ∧ F' p = none ∧ H p = none ∧ Own K F' H' p d
  | .fz => Dt K F' v d
  | .tr s => ∃ L, Tr K F' s v d L ∧ Ndp L ∧ ∀ q ∈ L, H' q.1 = some q.2 ∧ F' q.1 = none ∧ H q.1 = none
def NoMk (F : Hp) : Prop := ∀ a m, F a ≠ some (.own m)
/-- what is so of keys' tuples and of tables -/
structure KP (K : Fg) (F H : Hp) : Prop where
  kt : KT F H
  tb : LamX.Tabs K.T H
  nf : ∀ q, K.tb q → F q = none
def spD (K : Fg) (fl : List Bool) (nw : Rk) (g : List D → Option (D × List D)) : Sp := fun vs H Q _ => ∃ F ds d os M, Lk F H ∧ NoMk F ∧ KP K F H ∧ ArgsOk K F H 0 fl vs ds M ∧ Apart M ∧ g ds = some (d, os) ∧
  ∀ v F' H', Lk F' H' → NoMk F' → KP K F' H' → Sub F F' → (∀ p, F p = none → F' p ≠ none → H p = none ∧ ∀ ob u, F' p = some u → H' p ≠ some (.frz ob u)) → (∀ p o, H p = some o → (∀ j, (j, p) ∉ M) → ¬ K.tb p → H' p = some o) → OutsOk K F' H' M os → RetOk K nw H F' H' v d → Q v H'
/-- without the marks -/
def er (F : Hp) : Hp := fun a => match F a with
  | some (.own _) => none
  | x => x
theorem er_no (F : Hp) : NoMk (er F) := fun a m h => by
  unfold er at h
  split at h
  · cases h
  · rename_i n
    exact n m h
theorem er_at {F : Hp} {a : Addr} (h : ∀ m, F a ≠ some (.own m)) : er F a = F a := by
  unfold er
  split
  · rename_i m e; exact absurd e (h m)
  · rfl
theorem er_none {F : Hp} {a : Addr} (h : F a = none) : er F a = none := by rw [er_at (fun m z => by rw [h] at z; cases z)]; exact h
theorem er_sub (F : Hp) : Sub F (er F) := fun a o h m => by
  rw [er_at (fun k z => by rw [h] at z; cases z; cases m)]; exact h
theorem er_some {F : Hp} {a : Addr} {o : HO} (h : er F a = some o) : F a = some o := by
  unfold er at h
  split at h
  · cases h
  · exact h
theorem er_kt {F H : Hp} (k : KT F H) : KT (er F) H := fun a ks h => by
  have := k a ks h
  rw [er_at (fun m z => by rw [this] at z; cases z)]; exact this
theorem Sl.kpE {K : Fg} {B : Bs} {F H : Hp} {σ : L2.St} {env : En} (S : Sl K B F H σ env) : KP K (er F) H := ⟨er_kt S.kt, S.tb.now, fun _ z => er_none (S.tbF z)⟩
theorem er_lk {F H : Hp} (l : Lk F H) : Lk (er F) H := fun a o h => l a o (er_some h)
/-- the marks of F1 over F' -/
def mg (F1 F' : Hp) : Hp := fun a => match F1 a with
  | some (.own m) => some (.own m)
  | _ => F' a
theorem mg_mk {F1 F' : Hp} {a : Addr} {m : Addr} (h : F1 a = some (.own m)) : mg F1 F' a = some (.own m) := by unfold mg; rw [h]
theorem mg_at {F1 F' : Hp} {a : Addr} (h : ∀ m, F1 a ≠ some (.own m)) : mg F1 F' a = F' a := by
  unfold mg
  split
  · rename_i m e; exact absurd e (h m)
  · rfl
theorem mk_or {F : Hp} (a : Addr) : (∃ m, F a = some (.own m)) ∨ ∀ m, F a ≠ some (.own m) := by
  by_cases h : ∃ m, F a = some (.own m)
  · exact .inl h
  · exact .inr fun m e => h ⟨m, e⟩
section
variable {F1 H F' H' : Hp} {M : List (Nat × Addr)}
theorem mg_sub (cl : NoMk F') (l : Lk F1 H) (nw : ∀ p, er F1 p = none → F' p ≠ none → H p = none ∧ ∀ ob u, F' p = some u → H' p ≠ some (.frz ob u)) : Sub F' (mg F1 F') := fun a o h _ => by
  rcases mk_or (F := F1) a with ⟨m, e⟩ | e
  · have : H a = none := (nw a (by unfold er; rw [e]) (by rw [h]; exact fun z => nomatch z)).1
    rw [l.none this] at e; cases e
  · rw [mg_at e]; exact h
theorem mg_old (s : Sub (er F1) F') : Sub F1 (mg F1 F') := fun a o h m => by
  have n : ∀ k, F1 a ≠ some (.own k) := fun k z => by rw [h] at z; cases z; cases m
  rw [mg_at n]
  exact s a o (by rw [er_at n]; exact h) m
theorem mg_lk (l : Lk F1 H) (l' : Lk F' H') (hm : ∀ q ∈ M, F1 q.2 = none) (kp : ∀ p o m, F1 p = some (.own m) → H p = some o → (∀ j, (j, p) ∉ M) → H' p = some o) : Lk (mg F1 F') H' := fun a o h => by
  rcases mk_or (F := F1) a with ⟨m, e⟩ | e
  · rw [mg_mk e] at h; cases h
    refine .inr (.inr ⟨rfl, ?_⟩)
    rcases l a _ e with g | ⟨g, _⟩ | ⟨_, g⟩
    · rw [kp a _ m e g (fun j z => by rw [hm _ z] at e; cases e)]; exact fun z => nomatch z
    · exact g.elim
    · cases q : H a with
      | none => exact absurd q g
      | some u => rw [kp a _ m e q (fun j z => by rw [hm _ z] at e; cases e)]; exact fun z => nomatch z
  · rw [mg_at e] at h; exact l' a o h
theorem mg_kt (k : KT F1 H) (l : Lk F1 H) (k' : KT F' H') (hm : ∀ q ∈ M, F1 q.2 = none) (kp : ∀ p o m, F1 p = some (.own m) → H p = some o → (∀ j, (j, p) ∉ M) → H' p = some o) : KT (mg F1 F') H' := fun a ks h => by
  rcases mk_or (F := F1) a with ⟨m, e⟩ | e
  · exfalso
    cases q : H a with
    | none => rw [l.none q] at e; cases e
    | some u =>
      have := kp a u m e q (fun j z => by rw [hm _ z] at e; cases e)
      rw [h] at this; cases this
      rw [k a ks q] at e; cases e
  · rw [mg_at e]; exact k' a ks h
theorem mg_nw (nw : ∀ p, er F1 p = none → F' p ≠ none → H p = none ∧ ∀ ob u, F' p = some u → H' p ≠ some (.frz ob u)) : ∀ p, F1 p = none → mg F1 F' p ≠ none → H p = none ∧ ∀ ob u, mg F1 F' p = some u → H' p ≠ some (.frz ob u) := fun p h h' => by
  have e : mg F1 F' p = F' p := mg_at (fun m z => by rw [h] at z; cases z)
  rw [e] at h' ⊢
  exact nw p (er_none h) h'
theorem mg_new (cl : NoMk F') : ∀ a m, mg F1 F' a = some (.own m) → F1 a = some (.own m) := fun a m h => by
  rcases mk_or (F := F1) a with ⟨k, e⟩ | e
  · rw [mg_mk e] at h; rw [e]; exact h
  · rw [mg_at e] at h; exact absurd h (cl a m)
end
theorem OutsOk.mono {K : Fg} {F G H : Hp} (s : Sub F G) : ∀ {M : List (Nat × Addr)} {os : List D}, (∀ q ∈ M, F q.2 = none → G q.2 = none) → OutsOk K F H M os → OutsOk K G H M os
  | [], [], _, h => h
  | q :: M, d :: os, n, h => ⟨⟨n q List.mem_cons_self h.1.1, h.1.2.mono s fun _ z => z⟩, OutsOk.mono s (fun r hr => n r (List.mem_cons_of_mem _ hr)) h.2⟩
  | [], _ :: _, _, h => h.elim
  | _ :: _, [], _, h => h.elim
theorem ArgsOk.mono {K : Fg} {F G H : Hp} (s : Sub F G) (n0 : ∀ a, F a = none → G a = none) {n : Nat} {fl : List Bool} {vs : List V} {ds : List D} {M : List (Nat × Addr)} (h : ArgsOk K F H n fl vs ds M) : ArgsOk K G H n fl vs ds M := by
  induction h with
  | nil => exact .nil
  | fz a _ ih => exact .fz (a.mono s) ih
  | ow a b _ ih => exact .ow (n0 _ a) (b.mono s fun _ z => z) ih

section
variable {K : Fg} {F H : Hp}
theorem ArgsOk.len {n : Nat} {fl : List Bool} {vs : List V} {ds : List D} {M : List (Nat × Addr)} (h : ArgsOk K F H n fl vs ds M) : vs.length = fl.length ∧ ds.length = fl.length := by
  induction h with
  | nil => exact ⟨rfl, rfl⟩
  | fz _ _ ih => exact ⟨congrArg Nat.succ ih.1, congrArg Nat.succ ih.2⟩
  | ow _ _ _ ih => exact ⟨congrArg Nat.succ ih.1, congrArg Nat.succ ih.2⟩
theorem ArgsOk.none {n : Nat} {fl : List Bool} {vs : List V} {ds : List D} {M : List (Nat × Addr)} (h : ArgsOk K F H n fl vs ds M) : ∀ q ∈ M, F q.2 = none := by
  induction h with
  | nil => exact fun q hq => nomatch hq
  | fz _ _ ih => exact ih
  | ow a _ _ ih =>
    intro q hq
    rcases List.mem_cons.mp hq with rfl | hq
    · exact a
    · exact ih q hq
theorem ArgsOk.slots {n : Nat} {fl : List Bool} {vs : List V} {ds : List D} {M : List (Nat × Addr)} (h : ArgsOk K F H n fl vs ds M) : M.map (·.1) = slotsOf n fl := by
  induction h with
  | nil => rfl
  | fz _ _ ih => exact ih
  | ow _ _ _ ih => exact congrArg (List.cons _) ih
def AtOk (K : Fg) (F H : Hp) (M : List (Nat × Addr)) (k : Nat) (v : V) : Sv → Prop
  | .fz d => Dt K F v d
  | .pw d => ∃ p, v = .ref p ∧ F p = none ∧ Own K F H p d ∧ (k, p) ∈ M
  | _ => False
theorem AtOk.more {M M' : List (Nat × Addr)} {k : Nat} {v : V} {x : Sv} (h : AtOk K F H M k v x) (s : ∀ q ∈ M, q ∈ M') : AtOk K F H M' k v x := by
  cases x with
  | fz d => exact h
  | pw d => obtain ⟨p, a, b, c, e⟩ := h; exact ⟨p, a, b, c, s _ e⟩
  | un => exact h
  | ow _ => exact h
  | tr _ _ => exact h
  | tw _ _ => exact h
theorem ArgsOk.entry {n : Nat} {fl : List Bool} {vs : List V} {ds : List D} {M : List (Nat × Addr)} (h : ArgsOk K F H n fl vs ds M) :
    (DL.entry fl ds).length = fl.length ∧ (∀ (i : Nat) (x : Sv), (DL.entry fl ds)[i]? = some x → ∃ v, vs[i]? = some v ∧ AtOk K F H M (n + i) v x) ∧ ∀ q ∈ M, ∃ (i : Nat) (d : D), q.1 = n + i ∧ (DL.entry fl ds)[i]? = some (.pw d) ∧ vs[i]? = some (.ref q.2) := by
  induction h with
  | nil => exact ⟨rfl, fun i x e => by simp [DL.entry] at e, fun q hq => nomatch hq⟩
  | fz hd _ ih =>
    obtain ⟨h1, h2, h3⟩ := ih
    refine ⟨congrArg Nat.succ h1, fun i x e => ?_, fun q hq => ?_⟩
    · cases i with
      | zero => simp [DL.entry] at e; subst e; exact ⟨_, rfl, hd⟩
      | succ i =>
        obtain ⟨v, a, b⟩ := h2 i x (by simpa [DL.entry] using e)
        exact ⟨v, by simpa using a, by rw [Nat.add_right_comm] at b; exact b⟩
    · obtain ⟨i, d, a, b, c⟩ := h3 q hq
      exact ⟨i + 1, d, by omega, by simpa [DL.entry] using b, by simpa using c⟩
  | ow n1 ho _ ih =>
    obtain ⟨h1, h2, h3⟩ := ih
    refine ⟨congrArg Nat.succ h1, fun i x e => ?_, fun q hq => ?_⟩
    · cases i with
      | zero => simp [DL.entry] at e; subst e; exact ⟨_, rfl, _, rfl, n1, ho, List.mem_cons_self⟩
      | succ i =>
        obtain ⟨v, a, b⟩ := h2 i x (by simpa [DL.entry] using e)
        exact ⟨v, by simpa using a, by rw [Nat.add_right_comm] at b; exact b.more fun q hq => List.mem_cons_of_mem _ hq⟩
    · rcases List.mem_cons.mp hq with rfl | hq
      · exact ⟨0, _, rfl, rfl, rfl⟩
      · obtain ⟨i, d, a, b, c⟩ := h3 q hq
        exact ⟨i + 1, d, by omega, by simpa [DL.entry] using b, by simpa using c⟩
theorem sl_entry {N : List Str} {fl : List Bool} {vs : List V} {ds : List D} {M : List (Nat × Addr)} (h : ArgsOk K F H 0 fl vs ds M) (fh : Lk F H) (nm : NoMk F) (kt : KP K F H) (ap : Apart M) : Sl K ⟨F, H, M, [], [], K.tb⟩ F H (L2.start N vs) (env0 N.length fl ds) := by
  have h0 := h.none
  obtain ⟨e1, e2, e3⟩ := h.entry
  obtain ⟨l1, l2⟩ := h.len
  have look : ∀ {i : Nat} {x : Sv}, (env0 N.length fl ds)[i]? = some x → x ≠ .un → ∃ v, (L2.start N vs)[i]? = some (some v) ∧ AtOk K F H M i v x := fun {i x} e nu => by
    unfold env0 at e
    by_cases hi : i < (DL.entry fl ds).length
    · rw [List.getElem?_append_left hi] at e
      obtain ⟨v, a, b⟩ := e2 i x e
      refine ⟨v, ?_, by rw [Nat.zero_add] at b; exact b⟩
      unfold L2.start
      rw [List.getElem?_append_left (by rw [List.length_map, l1, ← e1]; exact hi), List.getElem?_map, a]
      rfl
    · rw [List.getElem?_append_right (Nat.le_of_not_lt hi), List.getElem?_replicate] at e
      split at e
      · cases e; exact absurd rfl nu
      · cases e
  have ow : ∀ {i : Nat} {d : D}, IsOw (env0 N.length fl ds) i d → ∃ p, (L2.start N vs)[i]? = some (some (.ref p)) ∧ F p = none ∧ Own K F H p d ∧ (i, p) ∈ M := fun {i d} o => by
    rcases o with o | o
    · obtain ⟨v, _, b⟩ := look o (fun z => nomatch z)
      exact b.elim
    · obtain ⟨v, a, p, rfl, b, c, e⟩ := look o (fun z => nomatch z)
      exact ⟨p, a, b, c, e⟩
  refine ⟨fh, ?_, fun i d e => look e (fun z => nomatch z), fun i d o => ?_, fun i j d e p a b c f => ?_, fun q hq => ?_, Sub.refl F, fun p a b => absurd a b, fun p o a _ _ _ => a, fun p hp => (nomatch hp), fun q hq => (nomatch hq), fun a ob u e h => .inr ⟨h, fun j hj => ?_, fun w hw => (nomatch hw), fun z => by rw [kt.nf a z] at e; cases e⟩, fun i s d e => by
    rcases e with e | e
    · obtain ⟨v, _, b⟩ := look e (fun z => nomatch z)
      exact b.elim
    · obtain ⟨v, _, b⟩ := look e (fun z => nomatch z)
      exact b.elim, fun a m e => absurd e (nm a m), fun a z => by
      obtain ⟨ps, q⟩ := tabs_at kt.tb z
      have q' : H a ≠ none := by rw [q]; exact fun z => nomatch z
      exact ⟨q', q', .inr z⟩, kt.kt, ⟨kt.tb, kt.tb, fun q h => ⟨kt.nf q h, h⟩⟩⟩
  rotate_right
  · rw [h0 (j, a) hj] at e; cases e
  · unfold env0 L2.start
    rw [List.length_append, List.length_append, List.length_replicate, List.length_replicate, List.length_map, e1, l1]
  · obtain ⟨p, a, b, c, e⟩ := ow o
    exact ⟨p, a, b, c, .inr ⟨i, e⟩⟩
  · obtain ⟨p1, a1, _, _, a2⟩ := ow a
    obtain ⟨p2, b1, _, _, b2⟩ := ow b
    rw [c] at a1; cases a1
    rw [f] at b1; cases b1
    exact ap i j p a2 b2
  · obtain ⟨i, d, a, b, c⟩ := e3 q hq
    rw [Nat.zero_add] at a
    have hi : i < (DL.entry fl ds).length := (List.getElem?_eq_some_iff.mp b).1
    refine ⟨⟨d, ?_⟩, ?_⟩
    · unfold env0
      rw [a, List.getElem?_append_left hi]
      exact b
    · unfold L2.start
      rw [a, List.getElem?_append_left (by rw [List.length_map, l1, ← e1]; exact hi), List.getElem?_map, c]
      rfl
theorem outs_ok {B : Bs} {F' H' : Hp} {σ : L2.St} {e : En} (S : Sl K B F' H' σ e) : ∀ {M : List (Nat × Addr)} {os : List D}, (∀ q ∈ M, q ∈ B.M) → outsAt (M.map (·.1)) e = some os → OutsOk K F' H' M os
  | [], os, _, h => by cases h; trivial
  | q :: M, os, hs, h => by
    obtain ⟨⟨d, h1⟩, h2⟩ := S.pm q (hs q List.mem_cons_self)
    have h : (match e[q.1]? with | some (.pw d) => (outsAt (M.map (·.1)) e).bind fun ds => some (d :: ds) | _ => none) = some os := h
    rw [h1] at h
    obtain ⟨ds, h3, h⟩ := bd h
    cases h
    obtain ⟨p, g1, g2, g3, _⟩ := S.own q.1 d (.inr h1)
    rw [h2] at g1; cases g1
    exact ⟨⟨g2, g3⟩, outs_ok S (fun r hr => hs r (List.mem_cons_of_mem _ hr)) h3⟩
end

/-- the body's reading from the promise -/
theorem body_of {wh : Wh} {K : Fg} {N : List Str} {fl : List Bool} {body : Sf} {vs : List V} {H : Hp} {Q : VK} {E : XK} (h : spD K fl .fz (gOf N.length fl body) vs H Q E) : tS K wh body { nx := fun _ H' => Q .non H', rt := Q } (L2.start N vs) H := by
  obtain ⟨F, ds, d, os, M, fh, nm, kt, ha, ap, hg, k⟩ := h
  unfold gOf at hg
  rw [if_pos ha.len.2] at hg
  obtain ⟨r, hr, hg⟩ := bd hg
  refine ⟨⟨F, H, M, [], [], K.tb⟩, F, env0 N.length fl ds, r, sl_entry ha fh nm kt ap, hr, ?_⟩
  have nf : ∀ {σ' : L2.St} {F' H' : Hp} {e : En}, Sl K ⟨F, H, M, [], [], K.tb⟩ F' H' σ' e → ∀ p, F p = none → er F' p ≠ none → H p = none ∧ ∀ ob u, er F' p = some u → H' p ≠ some (.frz ob u) := fun {_ F' _ _} S p a b => by
    have b' : F' p ≠ none := fun z => b (er_none z)
    refine ⟨S.nw p a b', fun ob u e h => ?_⟩
    rcases S.lk p ob u (er_some e) h with z | ⟨z, _⟩
    · cases z
    · have n0 := S.nw p a b'
      dsimp only at z n0
      rw [n0] at z; cases z
  have out : ∀ {σ' : L2.St} {F' H' : Hp} {e : En}, Sl K ⟨F, H, M, [], [], K.tb⟩ F' H' σ' e → outsAt (slotsOf 0 fl) e = some os → OutsOk K (er F') H' M os := fun S q => by
    rw [← ha.slots] at q
    exact (outs_ok S (fun _ z => z) q).mono (er_sub _) fun _ _ z => er_none z
  cases r with
  | nx e =>
    obtain ⟨os', q, hg⟩ := bd hg
    cases hg
    exact fun σ' F' H' S s => k .non (er F') H' (er_lk S.fh) (er_no _) S.kpE (s.trans (er_sub _)) (nf S) (fun p o a b c => S.kp p o a b (fun _ z => nomatch z) c) (out S q) (Dt.non : Dt K (er F') .non .none)
  | rt d' e =>
    obtain ⟨os', q, hg⟩ := bd hg
    cases hg
    exact fun v σ' F' H' S s hd => k v (er F') H' (er_lk S.fh) (er_no _) S.kpE (s.trans (er_sub _)) (nf S) (fun p o a b c => S.kp p o a b (fun _ z => nomatch z) c) (out S q) (hd.mono (er_sub _))
  | rn d' e => cases hg
  | rm s0 d' e => cases hg
  | xx x e => cases hg
  | bk e => cases hg
  | ct e => cases hg
theorem bodyN_of {wh : Wh} {K : Fg} {N : List Str} {fl : List Bool} {body : Sf} {vs : List V} {H : Hp} {Q : VK} {E : XK} (h : spD K fl .nw (gOfN N.length fl body) vs H Q E) : tS K wh body { nx := fun _ H' => Q .non H', rt := Q } (L2.start N vs) H := by
  obtain ⟨F, ds, d, os, M, fh, nm, kt, ha, ap, hg, k⟩ := h
  unfold gOfN at hg
  rw [if_pos ha.len.2] at hg
  obtain ⟨r, hr, hg⟩ := bd hg
  refine ⟨⟨F, H, M, [], [], K.tb⟩, F, env0 N.length fl ds, r, sl_entry ha fh nm kt ap, hr, ?_⟩
  have nf : ∀ {σ' : L2.St} {F' H' : Hp} {e : En}, Sl K ⟨F, H, M, [], [], K.tb⟩ F' H' σ' e → ∀ p, F p = none → er F' p ≠ none → H p = none ∧ ∀ ob u, er F' p = some u → H' p ≠ some (.frz ob u) := fun {_ F' _ _} S p a b => by
    have b' : F' p ≠ none := fun z => b (er_none z)
    refine ⟨S.nw p a b', fun ob u e h => ?_⟩
    rcases S.lk p ob u (er_some e) h with z | ⟨z, _⟩
    · cases z
    · have n0 := S.nw p a b'
      dsimp only at z n0
      rw [n0] at z; cases z
  have out : ∀ {σ' : L2.St} {F' H' : Hp} {e : En}, Sl K ⟨F, H, M, [], [], K.tb⟩ F' H' σ' e → outsAt (slotsOf 0 fl) e = some os → OutsOk K (er F') H' M os := fun S q => by
    rw [← ha.slots] at q
    exact (outs_ok S (fun _ z => z) q).mono (er_sub _) fun _ _ z => er_none z
  cases r with
  | rn d' e =>
    obtain ⟨os', q, hg⟩ := bd hg
    cases hg
    exact fun p σ' F' H' S s n n0 ho => k (.ref p) (er F') H' (er_lk S.fh) (er_no _) S.kpE (s.trans (er_sub _)) (nf S) (fun p o a b c => S.kp p o a b (fun _ z => nomatch z) c) (out S q) ⟨p, rfl, er_none n, n0, ho.mono (er_sub _) fun _ z => z⟩
  | nx e => cases hg
  | rt d' e => cases hg
  | rm s0 d' e => cases hg
  | xx x e => cases hg
  | bk e => cases hg
  | ct e => cases hg
theorem bodyM_of {wh : Wh} {K : Fg} {N : List Str} {fl : List Bool} {s0 : Sh} {body : Sf} {vs : List V} {H : Hp} {Q : VK} {E : XK} (h : spD K fl (.tr s0) (gOfM N.length fl s0 body) vs H Q E) : tS K wh body { nx := fun _ H' => Q .non H', rt := Q } (L2.start N vs) H := by
  obtain ⟨F, ds, d, os, M, fh, nm, kt, ha, ap, hg, k⟩ := h
  unfold gOfM at hg
  rw [if_pos ha.len.2] at hg
  obtain ⟨r, hr, hg2⟩ := bd hg
  clear hg
  refine ⟨⟨F, H, M, [], [], K.tb⟩, F, env0 N.length fl ds, r, sl_entry ha fh nm kt ap, hr, ?_⟩
  have nf : ∀ {σ' : L2.St} {F' H' : Hp} {e : En}, Sl K ⟨F, H, M, [], [], K.tb⟩ F' H' σ' e → ∀ p, F p = none → er F' p ≠ none → H p = none ∧ ∀ ob u, er F' p = some u → H' p ≠ some (.frz ob u) := fun {_ F' _ _} S p a b => by
    have b' : F' p ≠ none := fun z => b (er_none z)
    refine ⟨S.nw p a b', fun ob u e h => ?_⟩
    rcases S.lk p ob u (er_some e) h with z | ⟨z, _⟩
    · cases z
    · have n0 := S.nw p a b'
      dsimp only at z n0
      rw [n0] at z; cases z
  have out : ∀ {σ' : L2.St} {F' H' : Hp} {e : En}, Sl K ⟨F, H, M, [], [], K.tb⟩ F' H' σ' e → outsAt (slotsOf 0 fl) e = some os → OutsOk K (er F') H' M os := fun S q => by
    rw [← ha.slots] at q
    exact (outs_ok S (fun _ z => z) q).mono (er_sub _) fun _ _ z => er_none z
  cases r with
  | rm s' d' e =>
    dsimp only at hg2
    split at hg2
    · rename_i hs
      subst hs
      obtain ⟨os', q, hg3⟩ := bd hg2
      cases hg3
      exact fun v L σ' F' H' S s t nd hL => k v (er F') H' (er_lk S.fh) (er_no _) S.kpE (s.trans (er_sub _)) (nf S) (fun p o a b c => S.kp p o a b (fun _ z => nomatch z) c) (out S q) ⟨L, t.mono (er_sub _), nd, fun q hq => ⟨(hL q hq).1, er_none (hL q hq).2.1, (hL q hq).2.2⟩⟩
    · cases hg2
  | rn d' e => cases hg2
  | xx x e => cases hg2
  | nx e => cases hg2
  | rt d' e => cases hg2
  | bk e => cases hg2
  | ct e => cases hg2
theorem spD_len {K : Fg} {fl : List Bool} {nw : Rk} {g : List D → Option (D × List D)} {ps : List Str} (hl : fl.length = ps.length) : ∀ vs H Q E, spD K fl nw g vs H Q E → vs.length = ps.length := fun vs H Q E h => by
  obtain ⟨F, ds, d, os, M, fh, _, _, ha, _⟩ := h
  rw [ha.len.1]
  exact hl

/-! ### calls -/
def callIn : List Bool → List OV → En → Option (List D)
  | [], [], _ => some []
  | false :: fl, .fz d :: us, e => (callIn fl us e).bind fun ds => some (d :: ds)
  | true :: fl, .sl i :: us, e => match e[i]? with
    | some (.ow d) => (callIn fl us e).bind fun ds => some (d :: ds)
    | some (.pw d) => (callIn fl us e).bind fun ds => some (d :: ds)
    | _ => none
  | _, _, _ => none
def callSl : List OV → List Nat
  | [] => []
  | .fz _ :: us => callSl us
  | .sl i :: us => i :: callSl us
def chg (i : Nat) (d : D) (e : En) : Option En := match e[i]? with
  | some (.ow _) => some (e.set i (.ow d))
  | some (.pw _) => some (e.set i (.pw d))
  | _ => none
/-- at most one object is given to be changed -/
def putBack : List Nat → List D → En → Option En
  | [], [], e => some e
  | [i], [d], e => chg i d e
  | _, _, _ => none
def eCall (fl : List Bool) (g : List D → Option (D × List D)) (os : List Opd) : Df := fun env => (evs os env).bind fun r => (callIn fl r.1 r.2).bind fun ds => (g ds).bind fun o => (putBack (callSl r.1) o.2 r.2).bind fun e => some (o.1, e)
theorem callIn_args {K : Fg} {B : Bs} {F H : Hp} {σ : L2.St} {e : En} (S : Sl K B F H σ e) : ∀ {fl : List Bool} {us : List OV} {vs : List V} {ds : List D} (n : Nat), OVA K F σ us vs → callIn fl us e = some ds →
    ∃ M, ArgsOk K F H n fl vs ds M ∧ M.length = (callSl us).length ∧ ∀ (k i : Nat), (callSl us)[k]? = some i → ∃ (m : Nat) (p : Addr) (d : D), M[k]? = some (m, p) ∧ IsOw e i d ∧ σ[i]? = some (some (.ref p))
  | [], [], [], ds, n, _, h => by cases h; exact ⟨[], .nil, rfl, fun k i z => by simp [callSl] at z⟩
  | false :: fl, .fz d :: us, v :: vs, ds, n, ho, h => by
    obtain ⟨ds', q, h⟩ := bd (show (callIn fl us e).bind (fun ds => some (d :: ds)) = some ds from h)
    cases h
    obtain ⟨M, a, b, c⟩ := callIn_args S (n + 1) ho.2 q
    exact ⟨M, .fz ho.1 a, b, c⟩
  | true :: fl, .sl i :: us, v :: vs, ds, n, ho, h => by
    have hv : σ[i]? = some (some v) := ho.1
    have go : ∀ {d : D}, IsOw e i d → (callIn fl us e).bind (fun ds => some (d :: ds)) = some ds → ∃ M, ArgsOk K F H n (true :: fl) (v :: vs) ds M ∧ M.length = (callSl (.sl i :: us)).length ∧ ∀ (k j : Nat), (callSl (.sl i :: us))[k]? = some j → ∃ (m : Nat) (p : Addr) (d : D), M[k]? = some (m, p) ∧ IsOw e j d ∧ σ[j]? = some (some (.ref p)) := fun {d} hw h => by
      obtain ⟨ds', q, h⟩ := bd h
      cases h
      obtain ⟨M, a, b, c⟩ := callIn_args S (n + 1) ho.2 q
      obtain ⟨p, h1, h2, h3, _⟩ := S.own i d hw
      rw [hv] at h1; cases h1
      refine ⟨_, .ow h2 h3 a, congrArg Nat.succ b, fun k j z => ?_⟩
      cases k with
      | zero => cases z; exact ⟨n, p, d, rfl, hw, hv⟩
      | succ k => exact c k j z
    have h : (match e[i]? with | some (.ow d) => (callIn fl us e).bind fun ds => some (d :: ds) | some (.pw d) => (callIn fl us e).bind fun ds => some (d :: ds) | _ => none) = some ds := h
    split at h
    · rename_i d q; exact go (.inl q) h
    · rename_i d q; exact go (.inr q) h
    · cases h
  | [], [], _ :: _, _, _, ho, _ => ho.elim
  | [], _ :: _, _, _, _, _, h => by cases h
  | true :: _, [], _, _, _, _, h => by cases h
  | false :: _, [], _, _, _, _, h => by cases h
  | true :: _, .fz _ :: _, _, _, _, _, h => by cases h
  | false :: _, .sl _ :: _, _, _, _, _, h => by cases h
  | false :: _, .fz _ :: _, [], _, _, ho, _ => ho.elim
  | true :: _, .sl _ :: _, [], _, _, ho, _ => ho.elim
theorem putBack_inv {is : List Nat} {os : List D} {e e' : En} (h : putBack is os e = some e') : (is = [] ∧ e' = e) ∨ ∃ i d, is = [i] ∧ os = [d] ∧ chg i d e = some e' := by
  cases is with
  | nil =>
    cases os with
    | nil => cases h; exact .inl ⟨rfl, rfl⟩
    | cons _ _ => cases h
  | cons i r =>
    cases r with
    | nil =>
      cases os with
      | nil => cases h
      | cons d r =>
        cases r with
        | nil => exact .inr ⟨i, d, rfl, rfl, h⟩
        | cons _ _ => cases h
    | cons _ _ => cases os <;> cases h
/-- what is so behind the call -/
theorem Sl.called {K : Fg} {B : Bs} {F H F' H' : Hp} {σ : L2.St} {e e' : En} {us : List OV} {os : List D} {M : List (Nat × Addr)} (S : Sl K B F H σ e) (pb : putBack (callSl us) os e = some e') (ml : M.length = (callSl us).length)
    (ms : ∀ (k i : Nat), (callSl us)[k]? = some i → ∃ (m : Nat) (p : Addr) (d : D), M[k]? = some (m, p) ∧ IsOw e i d ∧ σ[i]? = some (some (.ref p)))
    (fh : Lk F' H') (s : Sub F F') (nw : ∀ p, F p = none → F' p ≠ none → H p = none ∧ ∀ ob u, F' p = some u → H' p ≠ some (.frz ob u)) (kp : ∀ p o, H p = some o → (∀ j, (j, p) ∉ M) → ¬ K.tb p → H' p = some o) (ok : OutsOk K F' H' M os) (hmk : ∀ a m, F a = some (.own m) → F' a = some (.own m)) (hmn : ∀ a m, F' a = some (.own m) → F a = some (.own m)) (hkt : KT F' H') (htb : LamX.Tabs K.T H') : Sl K B F' H' σ e' := by
  rcases putBack_inv pb with ⟨cs, he⟩ | ⟨i, d, cs, co, pb'⟩
  · subst he
    rw [cs] at ml
    have : M = [] := List.eq_nil_of_length_eq_zero ml
    subst this
    exact S.extT fh s nw (fun p o h => kp p o h fun j z => nomatch z) hmk hmn hkt htb
  · subst co
    rw [cs] at ml ms
    obtain ⟨m, p, d0, m1, m2, m3⟩ := ms 0 i rfl
    obtain ⟨q, rfl⟩ : ∃ q, M = [q] := by
      cases M with
      | nil => cases ml
      | cons q r =>
        cases r with
        | nil => exact ⟨q, rfl⟩
        | cons _ _ => cases ml
    have hq : q = (m, p) := by simpa using m1
    subst hq
    obtain ⟨⟨o1, o2⟩, _⟩ := ok
    have o1 : F' p = none := o1
    have o2 : Own K F' H' p d := o2
    have hi : i < e.length := by
      rcases m2 with z | z <;> exact (List.getElem?_eq_some_iff.mp z).1
    obtain ⟨x, hx, rfl⟩ : ∃ x : Sv, ((e[i]? = some (.ow d0) ∧ x = .ow d) ∨ (e[i]? = some (.pw d0) ∧ x = .pw d)) ∧ e' = e.set i x := by
      unfold DL.chg at pb'
      rcases m2 with z | z
      · rw [z] at pb'; cases pb'; exact ⟨_, .inl ⟨z, rfl⟩, rfl⟩
      · rw [z] at pb'; cases pb'; exact ⟨_, .inr ⟨z, rfl⟩, rfl⟩
    refine S.after fh s nw (fun a => a = p) (fun a o h hn => kp a o h fun j z => hn (by cases z with | head => rfl | tail _ z => cases z)) (by simp) (fun j y z => ?_) (fun j y z => ?_) (fun j y z => ?_) (fun a ha => ?_) (fun j s y z => (set_tr hi (fun s y => by rcases hx with ⟨_, hx⟩ | ⟨_, hx⟩ <;> (rw [hx]; exact ⟨(by intro z; cases z), (by intro z; cases z)⟩)) z).2) hmk hmn hkt htb
    · rcases set_other hi z with ⟨_, w⟩ | ⟨_, b⟩
      · rcases hx with ⟨_, hx⟩ | ⟨_, hx⟩ <;> (rw [hx] at w; cases w)
      · exact b
    · by_cases hj : j = i
      · subst hj
        refine ⟨d0, m2, fun r hr => .inr ?_⟩
        rw [m3] at hr; cases hr
        have : y = d := by
          rcases z with z | z
          · rcases set_other hi z with ⟨_, w⟩ | ⟨a, _⟩
            · rcases hx with ⟨_, hx⟩ | ⟨_, hx⟩ <;> (rw [hx] at w; cases w; try rfl)
            · exact absurd rfl a
          · rcases set_other hi z with ⟨_, w⟩ | ⟨a, _⟩
            · rcases hx with ⟨_, hx⟩ | ⟨_, hx⟩ <;> (rw [hx] at w; cases w; try rfl)
            · exact absurd rfl a
        subst this
        exact o2
      · have z' : IsOw e j y := by
          rcases z with z | z
          · exact .inl (by rw [List.getElem?_set_ne (Ne.symm hj)] at z; exact z)
          · exact .inr (by rw [List.getElem?_set_ne (Ne.symm hj)] at z; exact z)
        exact ⟨y, z', fun r hr => .inl ⟨rfl, fun w => hj (S.ap j i y d0 r z' m2 hr (by rw [w]; exact m3))⟩⟩
    · by_cases hj : j = i
      · subst hj
        rcases hx with ⟨hx, _⟩ | ⟨_, hx⟩
        · rw [hx] at z; cases z
        · exact ⟨d, by rw [List.getElem?_set_self hi, hx]⟩
      · exact ⟨y, by rw [List.getElem?_set_ne (Ne.symm hj)]; exact z⟩
    · subst ha
      obtain ⟨u, hu, _⟩ := o2.some
      exact ⟨⟨i, d0, m2, m3⟩, by rw [hu]; exact fun z => nomatch z⟩
theorem apart_of {K : Fg} {B : Bs} {F H : Hp} {σ : L2.St} {e : En} {M : List (Nat × Addr)} (h : M.length ≤ 1) : Apart M := fun i j p a b => by
  cases M with
  | nil => cases a
  | cons q r =>
    cases r with
    | nil =>
      have a : (i, p) = q := by simpa using a
      have b : (j, p) = q := by simpa using b
      rw [← b] at a
      cases a; rfl
    | cons _ _ => exact absurd h (by simp)
theorem putBack_le {is : List Nat} {os : List D} {e e' : En} (h : putBack is os e = some e') : is.length ≤ 1 := by
  rcases putBack_inv h with ⟨a, _⟩ | ⟨i, d, a, _⟩ <;> (rw [a]; simp)
section
variable {X : Cx} {Tb : TbT} {x : Str} {p pos : Pos} {e : Expr} {es : List Expr} {f : Addr} {fd : FuncData} {ps : List Str} {k : Nat} {fl : List Bool} {g : List D → Option (D × List D)} {os : List Opd}
theorem call_le {K : Fg} {E : XK} : ∀ σ H Q, tD K (eCall fl g os) σ H Q → tCall (spD K fl .fz g) [] E (tAr K os) σ H Q := fun σ H Q ⟨B, F, env, d, env', S, ef, kk⟩ => by
  obtain ⟨⟨us, e1⟩, q1, ef⟩ := bd ef
  obtain ⟨ds, q2, ef⟩ := bd ef
  obtain ⟨⟨d', os'⟩, q3, ef⟩ := bd ef
  obtain ⟨e2, q4, ef⟩ := bd ef
  cases ef
  refine ⟨B, F, env, us, e1, S, q1, fun vs F1 H1 S1 s1 h1 => ?_⟩
  obtain ⟨M, a, b, c⟩ := callIn_args S1 0 h1 q2
  rw [List.append_nil]
  refine ⟨er F1, ds, _, os', M, er_lk S1.fh, er_no _, S1.kpE, a.mono (er_sub _) (fun _ z => er_none z), apart_of (K := K) (B := B) (F := F) (H := H) (σ := σ) (e := e1) (by rw [b]; exact putBack_le q4), q3, fun v F' H' fh cl kt' s nw kp ok hd => ?_⟩
  have sb := mg_sub cl S1.fh nw
  have mn : ∀ q ∈ M, F1 q.2 = none := a.none
  have kpm : ∀ p o m, F1 p = some (.own m) → H1 p = some o → (∀ j, (j, p) ∉ M) → H' p = some o := fun p o m e h n => kp p o h n (S1.ntF e)
  exact kk v (mg F1 F') H' (S1.called q4 b c (mg_lk S1.fh fh mn kpm) (mg_old s) (mg_nw nw) kp (ok.mono sb fun q hq z => by rw [mg_at (fun m w => by rw [mn q hq] at w; cases w)]; exact z) (fun _ _ z => mg_mk z) (mg_new cl) (mg_kt S1.kt S1.fh kt'.kt mn kpm) kt'.tb) (s1.trans (mg_old s)) (Dt.mono sb hd)
theorem callN_le {K : Fg} {E : XK} : ∀ σ H Q, tN K (eCall fl g os) σ H Q → tCall (spD K fl .nw g) [] E (tAr K os) σ H Q := fun σ H Q ⟨B, F, env, d, env', S, ef, kk⟩ => by
  obtain ⟨⟨us, e1⟩, q1, ef⟩ := bd ef
  obtain ⟨ds, q2, ef⟩ := bd ef
  obtain ⟨⟨d', os'⟩, q3, ef⟩ := bd ef
  obtain ⟨e2, q4, ef⟩ := bd ef
  cases ef
  refine ⟨B, F, env, us, e1, S, q1, fun vs F1 H1 S1 s1 h1 => ?_⟩
  obtain ⟨M, a, b, c⟩ := callIn_args S1 0 h1 q2
  rw [List.append_nil]
  refine ⟨er F1, ds, _, os', M, er_lk S1.fh, er_no _, S1.kpE, a.mono (er_sub _) (fun _ z => er_none z), apart_of (K := K) (B := B) (F := F) (H := H) (σ := σ) (e := e1) (by rw [b]; exact putBack_le q4), q3, fun v F' H' fh cl kt' s nw kp ok hd => ?_⟩
  have sb := mg_sub cl S1.fh nw
  have mn : ∀ q ∈ M, F1 q.2 = none := a.none
  have kpm : ∀ p o m, F1 p = some (.own m) → H1 p = some o → (∀ j, (j, p) ∉ M) → H' p = some o := fun p o m e h n => kp p o h n (S1.ntF e)
  obtain ⟨p, rfl, n, n0, ho⟩ := hd
  have S2 := S1.called q4 b c (mg_lk S1.fh fh mn kpm) (mg_old s) (mg_nw nw) kp (ok.mono sb fun q hq z => by rw [mg_at (fun m w => by rw [mn q hq] at w; cases w)]; exact z) (fun _ _ z => mg_mk z) (mg_new cl) (mg_kt S1.kt S1.fh kt'.kt mn kpm) kt'.tb
  refine kk p (mg F1 F') H' S2 (s1.trans (mg_old s)) (by rw [mg_at (fun m w => by rw [S1.fh.none n0] at w; cases w)]; exact n) (S1.fresh n0) (fun i d o z => ?_) (S1.neX n0) (ho.mono sb fun _ z => z)
  obtain ⟨d1, o1⟩ : ∃ d1, IsOw e1 i d1 := by
    rcases putBack_inv q4 with ⟨_, he⟩ | ⟨j, d2, cs, _, q4⟩
    · subst he; exact ⟨d, o⟩
    · obtain ⟨m, p', d0, m1, m2, m3⟩ := c 0 j (by rw [cs]; rfl)
      by_cases hj : i = j
      · subst hj; exact ⟨d0, m2⟩
      · unfold DL.chg at q4
        have hji : j ≠ i := Ne.symm hj
        rcases m2 with m2 | m2
        · rw [m2] at q4; cases q4
          rcases o with o | o
          · exact ⟨d, .inl (by rw [List.getElem?_set_ne hji] at o; exact o)⟩
          · exact ⟨d, .inr (by rw [List.getElem?_set_ne hji] at o; exact o)⟩
        · rw [m2] at q4; cases q4
          rcases o with o | o
          · exact ⟨d, .inl (by rw [List.getElem?_set_ne hji] at o; exact o)⟩
          · exact ⟨d, .inr (by rw [List.getElem?_set_ne hji] at o; exact o)⟩
  exact S1.neOw n0 o1 z
theorem de_call (G : FnOk X.prog X.w X.K X.mg X.base CX0 k f fd ps (spD (X.kg Tb) fl .fz g)) (hr : Room k X.A) (hg : Gl X x) (hm : X.mg x = some (.ref f)) (hk : PySem.W.keepIn X.K (.ref f) = true) (hb : Binds X.K fd ps []) 
    (ha : PA X (e :: es) (tAr (X.kg Tb) os)) (hdb : (x == ("__debug__" : Str)) = false := by decide) (he : starEach (e :: es) X.env = (false, eval e X.env) :: starEach es X.env := by rfl) (hpl : (backTo pos (starEach es X.env)).any (·.1) = false := by rfl) :
    PE X (.Call (.Name x p) (e :: es) [] pos) (tD (X.kg Tb) (eCall fl g os)) := PEi (pe_call (E := E0) G hr hg hm hk hb .nil pass0 ha hdb he hpl) call_le
theorem de_callN (G : FnOk X.prog X.w X.K X.mg X.base CX0 k f fd ps (spD (X.kg Tb) fl .nw g)) (hr : Room k X.A) (hg : Gl X x) (hm : X.mg x = some (.ref f)) (hk : PySem.W.keepIn X.K (.ref f) = true) (hb : Binds X.K fd ps []) 
    (ha : PA X (e :: es) (tAr (X.kg Tb) os)) (hdb : (x == ("__debug__" : Str)) = false := by decide) (he : starEach (e :: es) X.env = (false, eval e X.env) :: starEach es X.env := by rfl) (hpl : (backTo pos (starEach es X.env)).any (·.1) = false := by rfl) :
    PE X (.Call (.Name x p) (e :: es) [] pos) (tN (X.kg Tb) (eCall fl g os)) := PEi (pe_call (E := E0) G hr hg hm hk hb .nil pass0 ha hdb he hpl) callN_le
end
end DL

/-! DLe: loops, comprehensions. -/
namespace DL
open PySem L2

/-! ### what is walked -/
/-- J gives out the data ds, one by one, wherever F's objects stand -/
def Walks (K : Fg) (J : It) (F : Hp) (ds : List D) : Prop := ∀ {B : Bs} {F' H : Hp} {σ : L2.St} {env : En}, Sl K B F' H σ env → Sub F F' → ∀ i : Nat,
  (∀ d, ds[i]? = some d → J.go i H ∧ ∀ x H', J.yld i H x H' → ∃ F'', Sl K B F'' H' σ env ∧ Sub F' F'' ∧ Dt K F'' x d) ∧ (ds.length = i → J.stop i H)
abbrev If := En → Option (List D × En)
def iD (K : Fg) (f : If) : TI := fun σ H R => ∃ B F env ds env', Sl K B F H σ env ∧ f env = some (ds, env') ∧ ∀ J F' H', Sl K B F' H' σ env' → Sub F F' → Walks K J F' ds → R J H'
section
variable {X : Cx} {Tb : TbT} {tg e a b : Expr} {pos : Pos}
theorem PIi {t u : TI} (h : PI X tg e t) (le : ∀ σ H R, u σ H R → t σ H R) : PI X tg e u := ⟨fun pins s σ H R I q => h.run pins s σ H R I (le σ H R q)⟩
/-- the items of a list, of a tuple -/
def iL (f : Df) : If := fun env => (f env).bind fun r => match r.1 with
  | .list ds => some (ds, r.2)
  | _ => none
def iT (f : Df) : If := fun env => (f env).bind fun r => match r.1 with
  | .tuple ds => some (ds, r.2)
  | _ => none
theorem walks_list {K : Fg} {F : Hp} {a : Addr} {vs : List V} {ds : List D} (h : F a = some (.lst vs)) (hd : DtA K F vs ds) : Walks K (Itl K.fr a) F ds := fun {B F' H σ env} S s i => by
  have hq : SqL K.fr H a vs := SqL.of (S.fh.lst (s _ _ h rfl))
  refine ⟨fun d e => ?_, fun hl => ⟨vs, hq, by rw [hd.length]; exact Nat.le_of_eq hl⟩⟩
  obtain ⟨v, h1, h2⟩ := hd.get e
  refine ⟨⟨vs, v, hq, h1⟩, fun x H' y => ?_⟩
  obtain ⟨rfl, y⟩ := y
  have := y vs hq
  rw [h1] at this; cases this
  exact ⟨F', S, Sub.refl _, h2.mono s⟩
theorem walks_tup {K : Fg} {F : Hp} {a : Addr} {vs : List V} {ds : List D} (h : F a = some (.tup vs)) (hd : DtA K F vs ds) : Walks K (Itt K.fr a) F ds := fun {B F' H σ env} S s i => by
  have hq : SqT K.fr H a vs := SqT.of (S.fh.tup (s _ _ h rfl))
  refine ⟨fun d e => ?_, fun hl => ⟨vs, hq, by rw [hd.length]; exact Nat.le_of_eq hl⟩⟩
  obtain ⟨v, h1, h2⟩ := hd.get e
  refine ⟨⟨vs, v, hq, h1⟩, fun x H' y => ?_⟩
  obtain ⟨rfl, y⟩ := y
  have := y vs hq
  rw [h1] at this; cases this
  exact ⟨F', S, Sub.refl _, h2.mono s⟩
theorem di_list {f : Df} (h : PE X e (tD (X.kg Tb) f)) : PI X tg e (iD (X.kg Tb) (iL f)) := PIi (pi_list h) fun σ H R ⟨B, F, env, ds, env', S, ef, k⟩ => by
  obtain ⟨⟨d, e1⟩, q, ef⟩ := bd ef
  cases d <;> first | (cases ef; done) | skip
  cases ef
  refine ⟨B, F, env, _, _, S, q, fun v F' H' S' s' hd => ?_⟩
  cases hd with
  | lst hq hd => exact ⟨_, rfl, ⟨_, SqL.of (S'.fh.lst hq)⟩, k _ F' H' S' s' (walks_list hq hd)⟩
theorem di_tup {f : Df} (h : PE X e (tD (X.kg Tb) f)) : PI X tg e (iD (X.kg Tb) (iT f)) := PIi (pi_tup h) fun σ H R ⟨B, F, env, ds, env', S, ef, k⟩ => by
  obtain ⟨⟨d, e1⟩, q, ef⟩ := bd ef
  cases d <;> first | (cases ef; done) | skip
  cases ef
  refine ⟨B, F, env, _, _, S, q, fun v F' H' S' s' hd => ?_⟩
  cases hd with
  | tup hq hd => exact ⟨_, rfl, ⟨_, SqT.of (S'.fh.tup hq)⟩, k _ F' H' S' s' (walks_tup hq hd)⟩
def rng (lo : Int) (n : Nat) : List D := (List.range n).map fun (i : Nat) => .int (lo + (i : Int))
theorem rng_get {lo : Int} {n i : Nat} {d : D} (h : (rng lo n)[i]? = some d) : i < n ∧ d = .int (lo + (i : Int)) := by
  unfold rng at h
  rw [List.getElem?_map] at h
  by_cases hi : i < n
  · rw [List.getElem?_range hi] at h
    cases h
    exact ⟨hi, rfl⟩
  · rw [List.getElem?_eq_none (by simpa using hi)] at h
    cases h
theorem rng_len (lo : Int) (n : Nat) : (rng lo n).length = n := by unfold rng; rw [List.length_map, List.length_range]
theorem walks_rng {K : Fg} {F : Hp} {lo : Int} {n : Nat} : Walks K (Itr lo n) F (rng lo n) := fun {B F' H σ env} S s i => by
  refine ⟨fun d e => ?_, fun hl => by rw [rng_len] at hl; exact Nat.le_of_eq hl⟩
  obtain ⟨h1, rfl⟩ := rng_get e
  refine ⟨h1, fun x H' y => ?_⟩
  obtain ⟨rfl, rfl⟩ := y
  exact ⟨F', S, Sub.refl _, .int _⟩
/-- range(n), range(m, n) -/
def iR1 (a : Opd) : If := fun env => (evs [a] env).bind fun r => (looks r.1 r.2).bind fun ds => match ds with
  | [.int n] => if -(2 ^ 62) ≤ n ∧ n < 2 ^ 62 then some (rng 0 n.toNat, r.2) else none
  | _ => none
def iR2 (a b : Opd) : If := fun env => (evs [a, b] env).bind fun r => (looks r.1 r.2).bind fun ds => match ds with
  | [.int m, .int n] => if -(2 ^ 62) ≤ m ∧ m < 2 ^ 62 ∧ -(2 ^ 62) ≤ n ∧ n < 2 ^ 62 then some (rng m (n - m).toNat, r.2) else none
  | _ => none
theorem BvA.one {K : Fg} {F H : Hp} {vs : List V} {d : D} (h : BvA K F H vs [d]) : ∃ v, vs = [v] ∧ Bv K F H v d := by
  cases vs with
  | nil => exact h.elim
  | cons v r =>
    cases r with
    | nil => exact ⟨v, rfl, h.1⟩
    | cons _ _ => exact h.2.elim
theorem BvA.two {K : Fg} {F H : Hp} {vs : List V} {d e : D} (h : BvA K F H vs [d, e]) : ∃ v w, vs = [v, w] ∧ Bv K F H v d ∧ Bv K F H w e := by
  cases vs with
  | nil => exact h.elim
  | cons v r =>
    obtain ⟨w, rfl, q⟩ := BvA.one h.2
    exact ⟨v, w, rfl, h.1, q⟩
theorem di_range1 {p : Pos} {o : Opd} (hg : Gl X "range") (hm : X.mg "range" = none) (ha : PE X a (tO (X.kg Tb) o)) (hs : starEach [a] X.env = [(false, eval a X.env)] := by rfl) : PI X tg (.Call (.Name "range" p) [a] [] pos) (iD (X.kg Tb) (iR1 o)) :=
  PIi (pi_range1 hg hm (da_cons ha da_nil hs) hs) fun σ H R ⟨B, F, env, ds, env', S, ef, k⟩ => by
    obtain ⟨⟨us, e1⟩, q, ef⟩ := bd ef
    obtain ⟨es, q2, ef⟩ := bd ef
    split at ef
    · rename_i n
      split at ef
      · rename_i hn
        cases ef
        refine ⟨B, F, env, us, _, S, q, fun vs F' H' S' s' ho => ?_⟩
        obtain ⟨v, rfl, hv⟩ := (ho.bv S' q2).one
        exact ⟨n, by rw [hv.int_inv], hn.1, hn.2, k _ F' H' S' s' walks_rng⟩
      · cases ef
    · cases ef
theorem di_range2 {p : Pos} {o o2 : Opd} (hg : Gl X "range") (hm : X.mg "range" = none) (ha : PE X a (tO (X.kg Tb) o)) (hb : PE X b (tO (X.kg Tb) o2)) (hs : starEach [a, b] X.env = [(false, eval a X.env), (false, eval b X.env)] := by rfl) (hs2 : starEach [b] X.env = [(false, eval b X.env)] := by rfl) : PI X tg (.Call (.Name "range" p) [a, b] [] pos) (iD (X.kg Tb) (iR2 o o2)) :=
  PIi (pi_range2 hg hm (da_cons ha (da_cons hb da_nil hs2) (by rw [hs, hs2])) hs hs2) fun σ H R ⟨B, F, env, ds, env', S, ef, k⟩ => by
    obtain ⟨⟨us, e1⟩, q, ef⟩ := bd ef
    obtain ⟨es, q2, ef⟩ := bd ef
    split at ef
    · rename_i m n
      split at ef
      · rename_i hn
        cases ef
        refine ⟨B, F, env, us, _, S, q, fun vs F' H' S' s' ho => ?_⟩
        obtain ⟨v, w, rfl, hv, hw⟩ := (ho.bv S' q2).two
        exact ⟨m, n, by rw [hv.int_inv, hw.int_inv], ⟨hn.1, hn.2.1, hn.2.2.1, hn.2.2.2⟩, k _ F' H' S' s' walks_rng⟩
      · cases ef
    · cases ef
end

/-! ### for -/
def forD (t : Tg) (body : Sf) : List D → En → Option Rs
  | [], env => some (.nx env)
  | d :: ds, env => (t d env).bind fun e1 => (body e1).bind fun r => match r with
    | .nx e => forD t body ds e
    | .ct e => forD t body ds e
    | .bk e => some (.nx e)
    | .rt d e => some (.rt d e)
    | .rn d e => some (.rn d e)
    | .rm s d e => some (.rm s d e)
    | .xx x e => some (.xx x e)
/-- nothing is raised -/
def noX (f : Sf) : Sf := fun e => (f e).bind fun r => match r with
  | .xx _ _ => none
  | r => some r
theorem noX_no {f : Sf} {e e' : En} {x : Ex} : noX f e ≠ some (.xx x e') := fun h => by
  obtain ⟨r, _, h⟩ := bd h
  cases r <;> cases h
theorem forD_noX {t : Tg} {f : Sf} {x : Ex} {e' : En} : ∀ {ds : List D} {e : En}, forD t (noX f) ds e ≠ some (.xx x e')
  | [], e => fun h => by cases h
  | d :: ds, e => fun h => by
    obtain ⟨e1, _, h⟩ := bd (show (t d e).bind (fun e1 => (noX f e1).bind fun r => match r with
      | .nx e => forD t (noX f) ds e
      | .ct e => forD t (noX f) ds e
      | .bk e => some (.nx e)
      | .rt d e => some (.rt d e)
      | .rn d e => some (.rn d e)
      | .rm s d e => some (.rm s d e)
      | .xx x e => some (.xx x e)) = some (.xx x e') from h)
    obtain ⟨r, q, h⟩ := bd h
    cases r with
    | nx e2 => exact forD_noX h
    | ct e2 => exact forD_noX h
    | bk e2 => cases h
    | rt d e2 => cases h
    | rn d e2 => cases h
    | rm s d e2 => cases h
    | xx y e2 => exact noX_no q
theorem ds_noX {X : Cx} {Tb : TbT} {wh : Wh} {b : List Stmt} {f : Sf} (h : PSs X b (tS (X.kg Tb) wh f)) : PSs X b (tS (X.kg Tb) wh (noX f)) := PSsi h fun E σ H ⟨B, F, env, r, S, ef, k⟩ => by
  obtain ⟨r1, q, ef⟩ := bd ef
  cases r1 <;> cases ef <;> exact ⟨B, F, env, _, S, q, k⟩
def sFor (t : Tg) (it : If) (body : Sf) : Sf := fun env => (it env).bind fun r => forD t body r.1 r.2
section
variable {X : Cx} {Tb : TbT} {tg iter : Expr} {body : List Stmt} {pos : Pos}
theorem drop_get {α : Type} {l : List α} {i : Nat} {x : α} (h : l[i]? = some x) : l.drop i = x :: l.drop (i + 1) := by
  obtain ⟨hi, e⟩ := List.getElem?_eq_some_iff.mp h
  rw [List.drop_eq_getElem_cons hi, e]
theorem dS_for {wh : Wh} {t : Tg} {ts : List Nat} {it : If} {f : Sf} (hp : PassesOwn (model X.prog X.w) X.A X.env X.xe) (hc : X.calm = true) (hi : PI X tg iter (iD (X.kg Tb) it)) (hg : PG X tg (gD (X.kg Tb) t ts)) (hb : PSs X body (tS (X.kg Tb) wh f))
    (hs : ∀ x, foldedSetIterable iter X.env x = pure x := by intro _; rfl) : PS X (.For tg iter body [] pos) (tS (X.kg Tb) wh (sFor t it f)) := PSi (ps_for hp hc hi hg hb hs) fun E σ H ⟨B, F, env, r, S, ef, k⟩ => by
  obtain ⟨⟨ds, e1⟩, q, ef⟩ := bd ef
  refine ⟨B, F, env, ds, e1, S, q, fun J F1 H1 S1 s1 W => ?_⟩
  refine ⟨fun i m σ H => m = ds.length - i ∧ i ≤ ds.length ∧ ∃ F2 env2, Sl (X.kg Tb) B F2 H σ env2 ∧ Sub F1 F2 ∧ forD t f (ds.drop i) env2 = some r, ⟨ds.length, by simp, Nat.zero_le _, F1, e1, S1, Sub.refl _, ef⟩, ?_⟩
  rintro i m σ2 H2 ⟨rfl, hi, F2, env2, S2, s2, ef2⟩
  obtain ⟨w1, w2⟩ := W S2 s2 i
  cases hd : ds[i]? with
  | none =>
    have hl : ds.length ≤ i := List.getElem?_eq_none_iff.mp hd
    rw [List.drop_eq_nil_of_le hl] at ef2
    cases ef2
    exact .inl ⟨w2 (Nat.le_antisymm hl hi), k σ2 F2 H2 S2 (s1.trans s2)⟩
  | some d =>
    have hlt : i < ds.length := (List.getElem?_eq_some_iff.mp hd).1
    rw [drop_get hd] at ef2
    obtain ⟨e3, q3, ef2⟩ := bd (show (t d env2).bind (fun e1 => (f e1).bind fun r => match r with
      | .nx e => forD t f (ds.drop (i + 1)) e
      | .ct e => forD t f (ds.drop (i + 1)) e
      | .bk e => some (.nx e)
      | .rt d e => some (.rt d e)
      | .rn d e => some (.rn d e)
      | .rm s d e => some (.rm s d e)
      | .xx x e => some (.xx x e)) = some r from ef2)
    obtain ⟨r1, q4, ef2⟩ := bd ef2
    obtain ⟨go, yl⟩ := w1 d hd
    refine .inr ⟨go, fun σ' H' => ∃ F2 env2, Sl (X.kg Tb) B F2 H' σ' env2 ∧ Sub F1 F2 ∧ forD t f (ds.drop (i + 1)) env2 = some r, fun σ' H' ⟨F3, en3, S3, s3, e3⟩ => ⟨ds.length - (i + 1), by omega, rfl, hlt, F3, en3, S3, s3, e3⟩, fun x H' y => ?_⟩
    obtain ⟨F3, S3, s3, hx⟩ := yl x H' y
    refine ⟨B, F3, env2, d, e3, S3, hx, q3, fun σ4 F4 H4 S4 s4 _ => ⟨B, F4, e3, r1, S4, q4, ?_⟩⟩
    have sub : Sub F F4 := ((s1.trans s2).trans s3).trans s4
    have sub1 : Sub F1 F4 := (s2.trans s3).trans s4
    cases r1 with
    | nx e => exact fun σ' F' H' S' s' => ⟨F', e, S', sub1.trans s', ef2⟩
    | ct e => exact fun σ' F' H' S' s' => ⟨F', e, S', sub1.trans s', ef2⟩
    | bk e => cases ef2; exact fun σ' F' H' S' s' => k σ' F' H' S' (sub.trans s')
    | rt d e => cases ef2; exact fun v σ' F' H' S' s' => k v σ' F' H' S' (sub.trans s')
    | rn d e => cases ef2; exact fun v σ' F' H' S' s' => k v σ' F' H' S' (sub.trans s')
    | rm s0 d e => cases ef2; exact fun v L σ' F' H' S' s' => k v L σ' F' H' S' (sub.trans s')
    | xx x e => cases ef2; exact fun cls dd σ' F' H' S' s' => k cls dd σ' F' H' S' (sub.trans s')
end

/-! ### while -/
def whileD (c : Bf) (body : Sf) : Nat → En → Option Rs
  | 0, _ => none
  | n + 1, env => (c env).bind fun b => if b.1 = true then (body b.2).bind fun r => match r with
    | .nx e => whileD c body n e
    | .ct e => whileD c body n e
    | .bk e => some (.nx e)
    | .rt d e => some (.rt d e)
    | .rn d e => some (.rn d e)
    | .rm s d e => some (.rm s d e)
    | .xx x e => some (.xx x e)
    else some (.nx b.2)
section
variable {X : Cx} {Tb : TbT} {c : Expr} {body : List Stmt} {pos : Pos}
theorem dS_while {wh : Wh} {n : Nat} {t : Bf} {f : Sf} (hp : PassesOwn (model X.prog X.w) X.A X.env X.xe) (hc : PT X c (tT (X.kg Tb) t)) (hb : PSs X body (tS (X.kg Tb) wh f)) : PS X (.While c body [] pos) (tS (X.kg Tb) wh (whileD t f n)) := PSi (ps_while hp hc hb) fun E σ H ⟨B, F, env, r, S, ef, k⟩ => by
  refine ⟨fun m σ H => ∃ F2 env2, Sl (X.kg Tb) B F2 H σ env2 ∧ Sub F F2 ∧ whileD t f m env2 = some r, ⟨n, F, env, S, Sub.refl _, ef⟩, ?_⟩
  rintro m σ2 H2 ⟨F2, env2, S2, s2, ef2⟩
  cases m with
  | zero => cases ef2
  | succ m =>
    obtain ⟨⟨b, e1⟩, q, ef2⟩ := bd (show (t env2).bind (fun b => if b.1 = true then (f b.2).bind fun r => match r with
      | .nx e => whileD t f m e
      | .ct e => whileD t f m e
      | .bk e => some (.nx e)
      | .rt d e => some (.rt d e)
      | .rn d e => some (.rn d e)
      | .rm s d e => some (.rm s d e)
      | .xx x e => some (.xx x e)
      else some (.nx b.2)) = some r from ef2)
    refine ⟨B, F2, env2, b, e1, S2, q, fun F3 H3 S3 s3 => ?_⟩
    cases b with
    | false =>
      rw [if_neg Bool.false_ne_true] at ef2 
      cases ef2
      exact k σ2 F3 H3 S3 (s2.trans s3)
    | true =>
      rw [if_pos rfl] at ef2
      obtain ⟨r1, q4, ef2⟩ := bd ef2
      refine ⟨fun σ' H' => ∃ F2 env2, Sl (X.kg Tb) B F2 H' σ' env2 ∧ Sub F F2 ∧ whileD t f m env2 = some r, fun σ' H' h => ⟨m, Nat.lt_succ_self m, h⟩, B, F3, e1, r1, S3, q4, ?_⟩
      have sub : Sub F F3 := s2.trans s3
      cases r1 with
      | nx e => exact fun σ' F' H' S' s' => ⟨F', e, S', sub.trans s', ef2⟩
      | ct e => exact fun σ' F' H' S' s' => ⟨F', e, S', sub.trans s', ef2⟩
      | bk e => cases ef2; exact fun σ' F' H' S' s' => k σ' F' H' S' (sub.trans s')
      | rt d e => cases ef2; exact fun v σ' F' H' S' s' => k v σ' F' H' S' (sub.trans s')
      | rn d e => cases ef2; exact fun v σ' F' H' S' s' => k v σ' F' H' S' (sub.trans s')
      | rm s0 d e => cases ef2; exact fun v L σ' F' H' S' s' => k v L σ' F' H' S' (sub.trans s')
      | xx x e => cases ef2; exact fun cls dd σ' F' H' S' s' => k cls dd σ' F' H' S' (sub.trans s')
end
end DL

/-! DLf: list comprehensions. -/
namespace DL
open PySem L2

/-! ### what is held meanwhile -/
section
variable {K : Fg} {B : Bs} {F H : Hp} {σ : L2.St} {env : En}
def Bs.hold (B : Bs) (p : Addr) (o : HO) : Bs := { B with X := (p, o) :: B.X }
theorem Sl.hold (S : Sl K B F H σ env) {p : Addr} {o : HO} (h : H p = some o) (n : F p = none) (n0 : B.H0 p = none) (no : ∀ (i : Nat) (d : D), IsOw env i d → σ[i]? ≠ some (some (.ref p))) : Sl K (B.hold p o) F H σ env :=
  ⟨S.fh, S.len, S.fz, S.own, S.ap, S.pm, S.f0, S.nw, S.kp, S.lc, fun q hq => by
    rcases List.mem_cons.mp hq with rfl | hq
    · exact ⟨h, n, n0, no⟩
    · exact S.hx q hq, S.lk, S.tr, S.mr, S.gv, S.kt, ⟨S.tb.now, S.tb.at0, S.tb.nf⟩⟩
theorem Sl.unhold {p : Addr} {o : HO} (S : Sl K (B.hold p o) F H σ env) : Sl K B F H σ env :=
  ⟨S.fh, S.len, S.fz, S.own, S.ap, S.pm, S.f0, S.nw, S.kp, S.lc, fun q hq => S.hx q (List.mem_cons_of_mem _ hq), S.lk, S.tr, S.mr, S.gv, S.kt, ⟨S.tb.now, S.tb.at0, S.tb.nf⟩⟩
theorem Sl.held {p : Addr} {o : HO} (S : Sl K (B.hold p o) F H σ env) : H p = some o ∧ F p = none ∧ B.H0 p = none ∧ ∀ (i : Nat) (d : D), IsOw env i d → σ[i]? ≠ some (some (.ref p)) := S.hx (p, o) List.mem_cons_self
/-- what is held is changed -/
theorem Sl.rehold {p : Addr} {o u : HO} (S : Sl K (B.hold p o) F H σ env) (nx : ∀ q ∈ B.X, q.1 ≠ p) (no : ∀ ks : List Key, u ≠ .tup (ks.map kV) := by intro ks h; cases h) (ntc : ¬ TC o := by exact fun z => z) : Sl K (B.hold p u) F (upd H p u) σ env := by
  obtain ⟨h1, h2, h3, h4⟩ := S.held
  refine ⟨fun a v e => ?_, S.len, S.fz, fun i d e => ?_, S.ap, S.pm, S.f0, S.nw, fun a v a1 a2 a3 a9 => ?_, fun a ha => ?_, fun q hq => ?_, fun a ob v e h => S.lk a ob v e (by
    have ne : a ≠ p := by rintro rfl; rw [h2] at e; cases e
    rw [upd_ne ne] at h; exact h), fun i s d e => by
      obtain ⟨v, L, g1, g2, g3, g4⟩ := S.tr i s d e
      exact ⟨v, L, g1, g2, g3, fun q hq => ⟨by rw [upd_ne (ne_of_none (g4 q hq).2 h2)]; exact (g4 q hq).1, (g4 q hq).2⟩⟩, S.mr, fun a g => ⟨by
      by_cases z : a = p
      · subst z; rw [upd_same]; exact fun z => nomatch z
      · rw [upd_ne z]; exact (S.gv a g).1, (S.gv a g).2⟩, fun a ks h => by
      by_cases z : a = p
      · subst z; rw [upd_same] at h; exact absurd (Option.some.inj h) (no ks)
      · rw [upd_ne z] at h; exact S.kt a ks h, ⟨tabs_chg S.tb.now h1 ntc, S.tb.at0, S.tb.nf⟩⟩
  · have ne : a ≠ p := by rintro rfl; rw [h2] at e; cases e
    rw [upd_ne ne]; exact S.fh a v e
  · obtain ⟨q, g1, g2, g3, g4⟩ := S.own i d e
    have ne : q ≠ p := by rintro rfl; exact h4 i d e g1
    exact ⟨q, g1, g2, g3.mono (Sub.refl _) fun v hv => by rw [upd_ne ne]; exact hv, g4⟩
  · have ne : a ≠ p := by
      rintro rfl
      have a1 : B.H0 a = some v := a1
      rw [h3] at a1; cases a1
    rw [upd_ne ne]; exact S.kp a v a1 a2 a3 a9
  · obtain ⟨g1, g2⟩ := S.lc a ha
    exact ⟨by rw [upd_ne (fun z => by rw [z, h2] at g2; cases g2)]; exact g1, g2⟩
  · rcases List.mem_cons.mp hq with rfl | hq
    · exact ⟨upd_same, h2, h3, h4⟩
    · obtain ⟨g1, g2⟩ := S.hx q (List.mem_cons_of_mem _ hq)
      exact ⟨by rw [upd_ne (nx q hq)]; exact g1, g2⟩
end

/-! ### a block's own names -/
def canWipe : Option Sv → Bool
  | some .un => true
  | some (.fz _) => true
  | _ => false
def wp : List Nat → En → En
  | [], env => env
  | v :: vs, env => (wp vs env).set v .un
def wipeE (vs : List Nat) (env : En) : Option En := if (vs.all fun j => canWipe env[j]?) = true then some (wp vs env) else none
def restore (vs : List Nat) (o e : En) : En := match vs with
  | [] => e
  | v :: vs => (restore vs o e).set v (o.getD v .un)
theorem wp_len (env : En) : ∀ vs : List Nat, (wp vs env).length = env.length
  | [] => rfl
  | v :: vs => by unfold wp; rw [List.length_set, wp_len env vs]
theorem wp_in {env : En} {j : Nat} : ∀ {vs : List Nat}, j ∈ vs → j < env.length → (wp vs env)[j]? = some .un
  | v :: vs, h, hl => by
    unfold wp
    by_cases e : j = v
    · subst e; rw [List.getElem?_set_self (by rw [wp_len]; exact hl)]
    · rw [List.getElem?_set_ne (Ne.symm e)]
      exact wp_in (by simpa [e] using h) hl
theorem wp_out {env : En} {j : Nat} : ∀ {vs : List Nat}, j ∉ vs → (wp vs env)[j]? = env[j]?
  | [], _ => rfl
  | v :: vs, h => by
    unfold wp
    rw [List.getElem?_set_ne (fun e => h (by rw [e]; exact List.mem_cons_self))]
    exact wp_out fun z => h (List.mem_cons_of_mem _ z)
theorem wipe_in {σ : L2.St} {j : Nat} : ∀ {vs : List Nat}, j ∈ vs → j < σ.length → (wipe σ vs)[j]? = some none
  | v :: vs, h, hl => by
    unfold wipe
    by_cases e : j = v
    · subst e; rw [List.getElem?_set_self (by rw [wipe_length]; exact hl)]
    · rw [List.getElem?_set_ne (Ne.symm e)]
      exact wipe_in (by simpa [e] using h) hl
theorem wipe_out {σ : L2.St} {j : Nat} : ∀ {vs : List Nat}, j ∉ vs → (wipe σ vs)[j]? = σ[j]?
  | [], _ => rfl
  | v :: vs, h => by
    unfold wipe
    rw [List.getElem?_set_ne (fun e => h (by rw [e]; exact List.mem_cons_self))]
    exact wipe_out fun z => h (List.mem_cons_of_mem _ z)
theorem wipe_but {σ σ' : L2.St} {vs ts : List Nat} (h : But ts (wipe σ vs) σ') (hs : ∀ j ∈ ts, j ∈ vs) : wipe σ' vs = wipe σ vs := by
  have hl : σ'.length = σ.length := by rw [h.1, wipe_length]
  apply List.ext_getElem?
  intro j
  by_cases hj : j ∈ vs
  · by_cases hb : j < σ.length
    · rw [wipe_in hj (by rw [hl]; exact hb), wipe_in hj hb]
    · rw [List.getElem?_eq_none (by rw [wipe_length, hl]; omega), List.getElem?_eq_none (by rw [wipe_length]; omega)]
  · rw [wipe_out hj, h.2 j fun z => hj (hs j z)]
theorem wipeE_inv {vs : List Nat} {env e : En} (h : wipeE vs env = some e) : (∀ j ∈ vs, canWipe env[j]? = true) ∧ e = wp vs env := by
  unfold wipeE at h
  split at h
  · rename_i q
    cases h
    exact ⟨fun j hj => List.all_eq_true.mp q j hj, rfl⟩
  · cases h
theorem restore_len (o e : En) : ∀ vs : List Nat, (restore vs o e).length = e.length
  | [] => rfl
  | v :: vs => by unfold restore; rw [List.length_set, restore_len o e vs]
theorem restore_in {o e : En} {j : Nat} : ∀ {vs : List Nat}, j ∈ vs → j < e.length → (restore vs o e)[j]? = some (o.getD j .un)
  | v :: vs, h, hl => by
    unfold restore
    by_cases q : j = v
    · subst q; rw [List.getElem?_set_self (by rw [restore_len]; exact hl)]
    · rw [List.getElem?_set_ne (Ne.symm q)]
      exact restore_in (by simpa [q] using h) hl
theorem restore_out {o e : En} {j : Nat} : ∀ {vs : List Nat}, j ∉ vs → (restore vs o e)[j]? = e[j]?
  | [], _ => rfl
  | v :: vs, h => by
    unfold restore
    rw [List.getElem?_set_ne (fun q => h (by rw [q]; exact List.mem_cons_self))]
    exact restore_out fun z => h (List.mem_cons_of_mem _ z)
section
variable {K : Fg} {B : Bs} {F H : Hp} {σ : L2.St} {env : En}
theorem canWipe_lt {j : Nat} (h : canWipe env[j]? = true) : j < env.length := by
  cases q : env[j]? with
  | none => rw [q] at h; cases h
  | some x => exact (List.getElem?_eq_some_iff.mp q).1
theorem canWipe_no {j : Nat} {d : D} (h : canWipe env[j]? = true) : ¬ IsOw env j d := fun o => by
  rcases o with o | o <;> (rw [o] at h; cases h)
theorem Sl.wipe (S : Sl K B F H σ env) {vs : List Nat} (hv : ∀ j ∈ vs, canWipe env[j]? = true) : Sl K B F H (L2.wipe σ vs) (wp vs env) := by
  have get : ∀ {j : Nat} {x : Sv}, (wp vs env)[j]? = some x → x ≠ .un → j ∉ vs ∧ env[j]? = some x := fun {j x} e nu => by
    by_cases hj : j ∈ vs
    · rw [wp_in hj (canWipe_lt (hv j hj))] at e
      cases e
      exact absurd rfl nu
    · rw [wp_out hj] at e
      exact ⟨hj, e⟩
  have ow : ∀ {j : Nat} {d : D}, IsOw (wp vs env) j d → j ∉ vs ∧ IsOw env j d := fun {j d} o => by
    rcases o with o | o
    · obtain ⟨a, b⟩ := get o (fun z => nomatch z)
      exact ⟨a, .inl b⟩
    · obtain ⟨a, b⟩ := get o (fun z => nomatch z)
      exact ⟨a, .inr b⟩
  refine ⟨S.fh, by rw [wp_len, wipe_length]; exact S.len, fun j d e => ?_, fun j d o => ?_, fun i j d e p a b c f => ?_, fun q hq => ?_, S.f0, S.nw, S.kp, S.lc, fun q hq => ?_, S.lk, fun j s d e => by
    rcases e with e | e
    · obtain ⟨a, b⟩ := get e (fun z => nomatch z)
      rw [wipe_out a]; exact S.tr j s d (.inl b)
    · obtain ⟨a, b⟩ := get e (fun z => nomatch z)
      rw [wipe_out a]; exact S.tr j s d (.inr b), S.mr, S.gv, S.kt, S.tb⟩
  · obtain ⟨a, b⟩ := get e (fun z => nomatch z)
    rw [wipe_out a]
    exact S.fz j d b
  · obtain ⟨a, b⟩ := ow o
    rw [wipe_out a]
    exact S.own j d b
  · obtain ⟨a1, a2⟩ := ow a
    obtain ⟨b1, b2⟩ := ow b
    rw [wipe_out a1] at c
    rw [wipe_out b1] at f
    exact S.ap i j d e p a2 b2 c f
  · obtain ⟨⟨d, h1⟩, h2⟩ := S.pm q hq
    have hn : q.1 ∉ vs := fun z => canWipe_no (hv _ z) (.inr h1)
    rw [wp_out hn, wipe_out hn]
    exact ⟨⟨d, h1⟩, h2⟩
  · obtain ⟨g1, g2, g3, g4⟩ := S.hx q hq
    exact ⟨g1, g2, g3, fun j d o => by
      obtain ⟨a, b⟩ := ow o
      rw [wipe_out a]
      exact g4 j d b⟩
/-- behind the block: its names are what they were -/
theorem Sl.back {F' H' : Hp} {e : En} (S : Sl K B F H σ env) {vs : List Nat} (hv : ∀ j ∈ vs, canWipe env[j]? = true) (S' : Sl K B F' H' (L2.wipe σ vs) e) (s : Sub F F') : Sl K B F' H' σ (restore vs env e) ∧ ∀ (j : Nat) (d : D), IsOw (restore vs env e) j d → IsOw e j d ∧ (L2.wipe σ vs)[j]? = σ[j]? := by
  have ln : e.length = σ.length := by rw [S'.len, wipe_length]
  have get : ∀ {j : Nat} {x : Sv}, (restore vs env e)[j]? = some x → (j ∈ vs ∧ env[j]? = some x) ∨ (j ∉ vs ∧ e[j]? = some x) := fun {j x} q => by
    by_cases hj : j ∈ vs
    · have hl := canWipe_lt (hv j hj)
      rw [restore_in hj (by rw [ln, ← S.len]; exact hl)] at q
      refine .inl ⟨hj, ?_⟩
      rw [List.getD_eq_getElem?_getD, List.getElem?_eq_getElem hl] at q
      rw [List.getElem?_eq_getElem hl]
      exact q
    · rw [restore_out hj] at q
      exact .inr ⟨hj, q⟩
  have ow : ∀ {j : Nat} {d : D}, IsOw (restore vs env e) j d → j ∉ vs ∧ IsOw e j d := fun {j d} o => by
    rcases o with o | o
    · rcases get o with ⟨a, b⟩ | ⟨a, b⟩
      · exact absurd (.inl b) (canWipe_no (d := d) (hv j a))
      · exact ⟨a, .inl b⟩
    · rcases get o with ⟨a, b⟩ | ⟨a, b⟩
      · exact absurd (.inr b) (canWipe_no (d := d) (hv j a))
      · exact ⟨a, .inr b⟩
  refine ⟨⟨S'.fh, by rw [restore_len]; exact ln, fun j d q => ?_, fun j d o => ?_, fun i j d e p a b c f => ?_, fun q hq => ?_, S'.f0, S'.nw, S'.kp, S'.lc, fun q hq => ?_, S'.lk, fun j s d q => by
    rcases q with q | q
    · rcases get q with ⟨a, b⟩ | ⟨a, b⟩
      · have := hv j a; rw [b] at this; cases this
      · rw [← wipe_out a]; exact S'.tr j s d (.inl b)
    · rcases get q with ⟨a, b⟩ | ⟨a, b⟩
      · have := hv j a; rw [b] at this; cases this
      · rw [← wipe_out a]; exact S'.tr j s d (.inr b), S'.mr, S'.gv, S'.kt, S'.tb⟩, fun j d o => ⟨(ow o).2, wipe_out (ow o).1⟩⟩
  · rcases get q with ⟨a, b⟩ | ⟨a, b⟩
    · obtain ⟨v, h1, h2⟩ := S.fz j d b
      exact ⟨v, h1, h2.mono s⟩
    · rw [← wipe_out a]
      exact S'.fz j d b
  · obtain ⟨a, b⟩ := ow o
    rw [← wipe_out a]
    exact S'.own j d b
  · obtain ⟨a1, a2⟩ := ow a
    obtain ⟨b1, b2⟩ := ow b
    rw [← wipe_out a1] at c
    rw [← wipe_out b1] at f
    exact S'.ap i j d _ p a2 b2 c f
  · obtain ⟨⟨d, h1⟩, h2⟩ := S'.pm q hq
    obtain ⟨⟨d0, h3⟩, _⟩ := S.pm q hq
    have hn : q.1 ∉ vs := fun z => canWipe_no (hv _ z) (.inr h3)
    rw [restore_out hn, ← wipe_out hn]
    exact ⟨⟨d, h1⟩, h2⟩
  · obtain ⟨g1, g2, g3, g4⟩ := S'.hx q hq
    exact ⟨g1, g2, g3, fun j d o => by
      obtain ⟨a, b⟩ := ow o
      rw [← wipe_out a]
      exact g4 j d b⟩
end

/-! ### [f for t in it if c] -/
def bTrue : Bf := fun env => some (true, env)
def lcGo (vs : List Nat) (t : Tg) (c : Bf) (f : Df) : List D → En → Option (List D × En)
  | [], env => some ([], env)
  | d :: ds, env => (t d env).bind fun e1 => (c e1).bind fun b => if b.1 = true then (f b.2).bind fun x => (wipeE vs x.2).bind fun e => (lcGo vs t c f ds e).bind fun r => some (x.1 :: r.1, r.2) else (wipeE vs b.2).bind fun e => lcGo vs t c f ds e
def eLc (vs : List Nat) (t : Tg) (it : If) (c : Bf) (f : Df) : Df := fun env => (it env).bind fun r => if r.1.length < 100000 then (wipeE vs r.2).bind fun e => (lcGo vs t c f r.1 e).bind fun z => some (.list z.1, restore vs r.2 z.2) else none
theorem lc_le {K : Fg} {vs ts : List Nat} {t : Tg} {it : If} {c : Bf} {f : Df} (hs : ∀ j ∈ ts, j ∈ vs) : ∀ σ H Q, tN K (eLc vs t it c f) σ H Q → tLc (iD K it) (gD K t ts) (tT K c) (tD K f) vs σ H Q := fun σ H Q ⟨B, F, env, d, env', S, ef, k⟩ => by
  obtain ⟨⟨ds, e1⟩, q1, ef⟩ := bd ef
  by_cases hlen : ds.length < 100000
  rotate_left
  · rw [if_neg hlen] at ef; cases ef
  rw [if_pos hlen] at ef
  obtain ⟨e2, q2, ef⟩ := bd ef
  obtain ⟨⟨all, ez⟩, q3, ef⟩ := bd ef
  cases ef
  obtain ⟨hv, rfl⟩ := wipeE_inv q2
  refine ⟨B, F, env, ds, e1, S, q1, fun J F1 H1 S1 s1 W Dl hD => ?_⟩
  have nX := S1.neX hD
  refine ⟨fun i m H => m = ds.length - i ∧ i ≤ ds.length ∧ ∃ F2 en vacc acc rest, Sl K (B.hold Dl (.lst vacc)) F2 H (L2.wipe σ vs) en ∧ Sub F1 F2 ∧ DtA K F2 vacc acc ∧ vacc.length ≤ i ∧ lcGo vs t c f (ds.drop i) en = some (rest, ez) ∧ acc ++ rest = all,
    ⟨ds.length, by simp, Nat.zero_le _, F1, _, [], [], all, ?_, Sub.refl _, .nil, Nat.le_refl _, q3, rfl⟩, ?_⟩
  · refine ((S1.wipe hv).laid hD).hold upd_same (S1.fh.none hD) (S1.fresh hD) fun i d o => (S1.wipe hv).neOw hD o
  rintro i m H2 ⟨rfl, hi, F2, en, vacc, acc, rest, S2, s2, hda, hvl, e3, hall⟩
  obtain ⟨w1, w2⟩ := W S2 s2 i
  cases hd : ds[i]? with
  | none =>
    have hl : ds.length ≤ i := List.getElem?_eq_none_iff.mp hd
    rw [List.drop_eq_nil_of_le hl] at e3
    cases e3
    rw [List.append_nil] at hall
    subst hall
    refine .inl ⟨w2 (Nat.le_antisymm hl hi), ?_⟩
    obtain ⟨h1, h2, h3, h4⟩ := S2.held
    obtain ⟨S3, ow3⟩ := S1.back hv S2.unhold s2
    exact k Dl F2 H2 S3 (s1.trans s2) h2 h3 (fun j d o => by
      obtain ⟨a, b⟩ := ow3 j d o
      rw [← b]
      exact h4 j d a) nX ⟨vacc, h1, hda⟩
  | some d =>
    have hlt : i < ds.length := (List.getElem?_eq_some_iff.mp hd).1
    rw [drop_get hd] at e3
    obtain ⟨e4, q4, e3⟩ := bd (show (t d en).bind (fun e1 => (c e1).bind fun b => if b.1 = true then (f b.2).bind fun x => (wipeE vs x.2).bind fun e => (lcGo vs t c f (ds.drop (i + 1)) e).bind fun r => some (x.1 :: r.1, r.2) else (wipeE vs b.2).bind fun e => lcGo vs t c f (ds.drop (i + 1)) e) = some (rest, ez) from e3)
    obtain ⟨⟨b, e5⟩, q5, e3⟩ := bd e3
    obtain ⟨go, yl⟩ := w1 d hd
    refine .inr ⟨go, fun H => ∃ F2 en vacc acc rest, Sl K (B.hold Dl (.lst vacc)) F2 H (L2.wipe σ vs) en ∧ Sub F1 F2 ∧ DtA K F2 vacc acc ∧ vacc.length ≤ i + 1 ∧ lcGo vs t c f (ds.drop (i + 1)) en = some (rest, ez) ∧ acc ++ rest = all, fun H' hN => ⟨ds.length - (i + 1), by omega, rfl, hlt, hN⟩, fun x H' y => ?_⟩
    obtain ⟨F3, S3, s3, hx⟩ := yl x H' y
    refine ⟨B.hold Dl (.lst vacc), F3, en, d, e4, S3, hx, q4, fun σ4 F4 H4 S4 s4 but => ⟨wipe_but but hs, B.hold Dl (.lst vacc), F4, e4, b, e5, S4, q5, fun F5 H5 S5 s5 => ?_⟩⟩
    have hw := wipe_but but hs
    have s25 : Sub F2 F5 := (s3.trans s4).trans s5
    cases b with
    | false =>
      rw [if_neg Bool.false_ne_true] at e3
      refine iteF ?_
      obtain ⟨e6, q6, e3⟩ := bd e3
      obtain ⟨hv6, rfl⟩ := wipeE_inv q6
      exact ⟨F5, _, vacc, acc, rest, hw ▸ S5.wipe hv6, s2.trans s25, hda.mono s25, Nat.le_succ_of_le hvl, e3, hall⟩
    | true =>
      rw [if_pos rfl] at e3
      refine iteT ?_
      obtain ⟨⟨x', e6⟩, q6, e3⟩ := bd e3
      obtain ⟨e7, q7, e3⟩ := bd e3
      obtain ⟨⟨r1, ez'⟩, q8, e3⟩ := bd e3
      cases e3
      obtain ⟨hv7, rfl⟩ := wipeE_inv q7
      refine ⟨B.hold Dl (.lst vacc), F5, e5, x', e6, S5, q6, fun v F6 H6 S6 s6 hv6 => ?_⟩
      obtain ⟨g1, g2, g3, g4⟩ := S6.held
      refine ⟨vacc, g1, Nat.lt_of_le_of_lt (Nat.le_trans hvl (Nat.le_of_lt hlt)) (Nat.lt_of_lt_of_le hlen (by decide)), ?_⟩
      exact ⟨F6, _, vacc ++ [v], acc ++ [x'], r1, hw ▸ (S6.rehold (u := .lst (vacc ++ [v])) nX).wipe hv7, s2.trans (s25.trans s6), (hda.mono (s25.trans s6)).append (.cons hv6 .nil), by rw [List.length_append]; exact Nat.succ_le_succ hvl, q8, by rw [List.append_assoc]; exact hall⟩
section
variable {X : Cx} {Tb : TbT} {elt tg iter : Expr} {ifs : List Expr} {scope : Scope} {own : List (Str × Nat)} {pos : Pos}
theorem dts_nil : PTs X [] (tT (X.kg Tb) bTrue) := ⟨fun pins s σ H Q I h => by
  obtain ⟨B, F, env, b, env', S, ef, k⟩ := h
  cases ef
  exact pts_nil.run pins s σ H Q I (k F H S (Sub.refl F))⟩
theorem dts_one {c : Expr} {t : Bf} (h : PT X c (tT (X.kg Tb) t)) : PTs X [c] (tT (X.kg Tb) t) := pts_one h
theorem de_lc {t : Tg} {ts : List Nat} {it : If} {c : Bf} {f : Df} (hc : X.calm = true) (hN : X.N.Nodup) (hs' : ∀ j ∈ ts, j ∈ own.map (·.2)) (hi : PI X tg iter (iD (X.kg Tb) it)) (ok : BlkOk X.N X.env.scope scope own)
    (hg : ∀ (s : Shared) (H : Hp) (C : Addr) (cl : List (Str × Addr)) (fp : List Addr), PG (X.blk s H scope (compEnvC scope cl C X.env) fp) tg (gD (X.kg Tb) t ts)) (ht : ∀ (s : Shared) (H : Hp) (C : Addr) (cl : List (Str × Addr)) (fp : List Addr), PTs (X.blk s H scope (compEnvC scope cl C X.env) fp) ifs (tT (X.kg Tb) c))
    (he : ∀ (s : Shared) (H : Hp) (C : Addr) (cl : List (Str × Addr)) (fp : List Addr), PE (X.blk s H scope (compEnvC scope cl C X.env) fp) elt (tD (X.kg Tb) f)) (hs : ∀ x, foldedSetIterable iter X.env x = pure x := by intro _; rfl) :
    PE X (.ListComp elt [⟨tg, iter, ifs, 0⟩] scope pos) (tN (X.kg Tb) (eLc (own.map (·.2)) t it c f)) := PEi (pe_lc hc hN hi ok hg ht he hs) (lc_le hs')
theorem dS_setLc {wh : Wh} {i : Nat} {y : Str} {py spos : Pos} {t : Tg} {ts : List Nat} {it : If} {c : Bf} {f : Df} (hc : X.calm = true) (hN : X.N.Nodup) (hs' : ∀ j ∈ ts, j ∈ own.map (·.2)) (hsw : swapsWith (.ListComp elt [⟨tg, iter, ifs, 0⟩] scope pos) (some (.Name y py)) spos.line X.env = pure true) (hi : PI X tg iter (iD (X.kg Tb) it)) (ok : BlkOk X.N X.env.scope scope own)
    (hg : ∀ (s : Shared) (H : Hp) (C : Addr) (cl : List (Str × Addr)) (fp : List Addr), PG (X.blk s H scope (compEnvC scope cl C X.env) fp) tg (gD (X.kg Tb) t ts)) (ht : ∀ (s : Shared) (H : Hp) (C : Addr) (cl : List (Str × Addr)) (fp : List Addr), PTs (X.blk s H scope (compEnvC scope cl C X.env) fp) ifs (tT (X.kg Tb) c))
    (he : ∀ (s : Shared) (H : Hp) (C : Addr) (cl : List (Str × Addr)) (fp : List Addr), PE (X.blk s H scope (compEnvC scope cl C X.env) fp) elt (tD (X.kg Tb) f)) (hs : ∀ x, foldedSetIterable iter X.env x = pure x := by intro _; rfl)
    (hy : X.N[i]? = some y := by rfl) (hyl : X.env.scope.names.lookup y = some .local := by rfl) :
    PS X (.Assign [.Name y py] (.ListComp elt [⟨tg, iter, ifs, 0⟩] scope pos) spos) (tS (X.kg Tb) wh (sSetN i (eLc (own.map (·.2)) t it c f))) := PSi (ps_setLc hc hN hy hyl hsw hi ok hg ht he hs) fun E σ H ⟨B, F, env, r, S, ef, k⟩ => lc_le hs' σ H _ (by
  obtain ⟨⟨d, e1⟩, q, ef⟩ := bd ef
  obtain ⟨e2, q2, ef⟩ := bd ef
  cases ef
  obtain ⟨hi', np, rfl⟩ := put_inv q2
  exact ⟨B, F, env, d, e1, S, q, fun p F' H' S' s' n n0 no nx ho => k _ F' H' (S'.setO hi' np n n0 no nx ho) s'⟩)
end
end DL

/-! DLg: operators, built-ins. -/
namespace DL
open PySem L2

section
variable {K : Fg} {F H : Hp} {v : V}
theorem Bv.lst {ds : List D} (h : Bv K F H v (.list ds)) (l : Lk F H) : ∃ p vs, v = .ref p ∧ H p = some (.lst vs) ∧ DtA K F vs ds := by
  rcases h with h | ⟨p, rfl, _, vs, e, t⟩
  · cases h with
    | lst e t => exact ⟨_, _, rfl, l.lst e, t⟩
  · exact ⟨p, vs, rfl, e, t⟩
theorem Bv.tup {ds : List D} (h : Bv K F H v (.tuple ds)) (l : Lk F H) : ∃ p vs, v = .ref p ∧ F p = some (.tup vs) ∧ H p = some (.tup vs) ∧ DtA K F vs ds := by
  rcases h with h | ⟨p, rfl, _, z⟩
  · cases h with
    | tup e t => exact ⟨_, _, rfl, e, l.tup e, t⟩
  · exact z.elim
theorem Bv.tupD {ds : List D} (h : Bv K F H v (.tuple ds)) : Dt K F v (.tuple ds) := h.dt fun _ z => z
end
theorem szL {n : Nat} (h : n ≤ 100000) : n ≤ sizeLine := Nat.le_trans h (by decide)
theorem szL' {n : Nat} (h : n < 100000) : n < sizeLine := Nat.lt_of_lt_of_le h (by decide)

/-! ### + - * // % ** -/
def gAdd : D → D → Option D
  | .int a, .int b => some (.int (a + b))
  | .tuple a, .tuple b => if a.length + b.length ≤ 100000 then some (.tuple (a ++ b)) else none
  | .list a, .list b => if a.length + b.length ≤ 100000 then some (.list (a ++ b)) else none
  | .str a, .str b => if a.length + b.length ≤ 100000 then some (.str (a ++ b)) else none
  | _, _ => none
def gCat : D → D → Option D
  | .list a, .list b => if a.length + b.length ≤ 100000 then some (.list (a ++ b)) else none
  | _, _ => none
def rStrCat : R2 := fun x y H Q => ∃ i j, x = .str i ∧ y = .str j ∧ i.length + j.length ≤ sizeLine ∧ Q (.str (i ++ j)) H
def rAddI : R2 := rI0 fun i j => .int (i + j)
def rAdds (K : Fr) : R2 := fun x y H Q => rAddI x y H Q ∨ rCatA K x y H Q ∨ rCat x y H Q ∨ rStrCat x y H Q
theorem op_adds {X : Cx} : OpR X (binaryOp .Add) (rAdds X.K) := OpR.or op_add (OpR.or op_catA (OpR.or op_cat op_add_str))
theorem ok_adds {K : Fg} : Ok2 K (rAdds K.fr) gAdd := fun {B F H σ env x y a b d Q} S ha hb e k => by
  unfold gAdd at e
  split at e
  · cases e
    exact .inl ⟨_, _, ha.int_inv, hb.int_inv, k _ F H S (Sub.refl _) (.int _)⟩
  · split at e
    · rename_i hl
      cases e
      obtain ⟨p, vs, rfl, f1, h1, t1⟩ := ha.tup S.fh
      obtain ⟨q, ws, rfl, f2, h2, t2⟩ := hb.tup S.fh
      refine .inr (.inl ⟨p, q, vs, ws, rfl, rfl, SqT.of h1, SqT.of h2, szL (by rw [t1.length, t2.length]; exact hl), fun e => ?_, fun e1 e => ?_, fun e1 e2 r hr => ?_⟩)
      · subst e; cases t1; exact k _ F H S (Sub.refl _) (.tup f2 t2)
      · subst e; cases t2; rw [List.append_nil] at k; exact k _ F H S (Sub.refl _) (.tup f1 t1)
      · exact k _ _ _ (S.new hr) (S.subNew hr) (.tup upd_same ((t1.append t2).mono (S.subNew hr)))
    · cases e
  · split at e
    · rename_i hl
      cases e
      obtain ⟨p, vs, rfl, h1, t1⟩ := ha.lst S.fh
      obtain ⟨q, ws, rfl, h2, t2⟩ := hb.lst S.fh
      refine .inr (.inr (.inl ⟨p, q, vs, ws, rfl, rfl, h1, h2, szL (by rw [t1.length, t2.length]; exact hl), fun r hr => ?_⟩))
      exact k _ _ _ (S.new hr) (S.subNew hr) (.lst upd_same ((t1.append t2).mono (S.subNew hr)))
    · cases e
  · split at e
    · rename_i hl
      cases e
      exact .inr (.inr (.inr ⟨_, _, ha.str_inv, hb.str_inv, szL hl, k _ F H S (Sub.refl _) (.str _)⟩))
    · cases e
  · cases e
theorem KN.at_new {K : Fg} {B : Bs} {F H : Hp} {σ : L2.St} {env : En} {d : D} {Q : VK} {p : Addr} {o : HO} (k : KN K B F σ env d Q) (S : Sl K B F H σ env) (n : H p = none) (ho : Own K F (upd H p o) p d) : Q (.ref p) (upd H p o) :=
  k p F (upd H p o) (S.laid n (fun ks z => (ho.notup (by rw [upd_same, z])).elim)) (Sub.refl _) (S.fh.none n) (S.fresh n) (fun i e o => S.neOw n o) (S.neX n) ho
theorem ok_cat {K : Fg} : Ok2N K rCat gCat := fun {B F H σ env x y a b d Q} S ha hb e k => by
  unfold gCat at e
  split at e
  · split at e
    · rename_i hl
      cases e
      obtain ⟨p, vs, rfl, h1, t1⟩ := ha.lst S.fh
      obtain ⟨q, ws, rfl, h2, t2⟩ := hb.lst S.fh
      exact ⟨p, q, vs, ws, rfl, rfl, h1, h2, szL (by rw [t1.length, t2.length]; exact hl), fun r hr => k.at_new S hr ⟨_, upd_same, t1.append t2⟩⟩
    · cases e
  · cases e
def gInt2 (C : Int → Int → Bool) (g : Int → Int → Int) : D → D → Option D
  | .int a, .int b => if C a b = true then some (.int (g a b)) else none
  | _, _ => none
theorem ok_int2 {K : Fg} {P : Int → Int → Prop} {C : Int → Int → Bool} {g : Int → Int → Int} (h : ∀ i j, C i j = true → P i j) : Ok2 K (rI P fun i j => .int (g i j)) (gInt2 C g) := fun {B F H σ env x y a b d Q} S ha hb e k => by
  unfold gInt2 at e
  split at e
  · split at e
    · rename_i hc
      cases e
      exact ⟨_, _, ha.int_inv, hb.int_inv, h _ _ hc, k _ F H S (Sub.refl _) (.int _)⟩
    · cases e
  · cases e
def gSub : D → D → Option D
  | .int a, .int b => some (.int (a - b))
  | _, _ => none
theorem ok_sub {K : Fg} : Ok2 K (rI0 fun i j => .int (i - j)) gSub := fun {B F H σ env x y a b d Q} S ha hb e k => by
  unfold gSub at e
  split at e
  · cases e
    exact ⟨_, _, ha.int_inv, hb.int_inv, k _ F H S (Sub.refl _) (.int _)⟩
  · cases e
abbrev gMul := gInt2 (fun i j => (decide (-(2 ^ 64) < i) && decide (i < 2 ^ 64)) || (decide (-(2 ^ 64) < j) && decide (j < 2 ^ 64))) (fun i j => i * j)
theorem ok_mul {K : Fg} : Ok2 K (rI CMul fun i j => .int (i * j)) gMul := ok_int2 fun i j h => by
  simp only [Bool.or_eq_true, Bool.and_eq_true, decide_eq_true_eq] at h
  exact h
abbrev gMod := gInt2 (fun _ j => decide (0 < j)) (fun i j => i % j)
theorem ok_mod {K : Fg} : Ok2 K (rI (fun _ j => 0 < j) fun i j => .int (i % j)) gMod := ok_int2 fun i j h => of_decide_eq_true h
abbrev gDiv := gInt2 (fun _ j => decide (0 < j) && decide (j.natAbs.log2 < 9000)) (fun i j => i / j)
theorem ok_div {K : Fg} : Ok2 K (rI CDivW fun i j => .int (i / j)) gDiv := ok_int2 fun i j h => by
  simp only [Bool.and_eq_true, decide_eq_true_eq] at h
  exact h
abbrev gPow := gInt2 (fun i j => decide (0 ≤ j) && (decide (j ≤ 1000) && decide (i.natAbs < 2 ^ 64))) (fun i j => i ^ j.toNat)
theorem ok_pow {K : Fg} : Ok2 K (rI CPow fun i j => .int (i ^ j.toNat)) gPow := ok_int2 fun i j h => by
  simp only [Bool.and_eq_true, decide_eq_true_eq] at h
  obtain ⟨a, b, c⟩ := h
  exact ⟨a, Int.le_trans b (by decide), c⟩
def gNeg : D → Option D
  | .int a => some (.int (-a))
  | _ => none
theorem ok_neg {K : Fg} : Ok1 K (rU fun i => .int (-i)) gNeg := fun {B F H σ env x a d Q} S ha e k => by
  unfold gNeg at e
  split at e
  · cases e
    exact ⟨_, ha.int_inv, k _ F H S (Sub.refl _) (.int _)⟩
  · cases e
theorem de_neg {X : Cx} {Tb : TbT} {a : Expr} {o : Opd} {pos : Pos} (ha : PE X a (tO (X.kg Tb) o)) : PE X (.UnaryOp .USub a pos) (tD (X.kg Tb) (op1 gNeg o)) := PEi (pe_un un_neg ha) (op1_le ok_neg)

/-! ### comparisons -/
def gCmp (p : Int → Int → Bool) : D → D → Option D
  | .int a, .int b => some (.bool (p a b))
  | _, _ => none
theorem ok_cmp {K : Fg} {p : Int → Int → Bool} : Ok2 K (rI0 fun i j => .bl (p i j)) (gCmp p) := fun {B F H σ env x y a b d Q} S ha hb e k => by
  unfold gCmp at e
  split at e
  · cases e
    exact ⟨_, _, ha.int_inv, hb.int_inv, k _ F H S (Sub.refl _) (.bl _)⟩
  · cases e
abbrev gLt := gCmp fun i j => decide (i < j)
abbrev gLe := gCmp fun i j => decide (i ≤ j)
abbrev gGt := gCmp fun i j => decide (j < i)
abbrev gGe := gCmp fun i j => decide (j ≤ i)
mutual
def noDct : D → Bool
  | .list ds => noDcts ds
  | .tuple ds => noDcts ds
  | .dict _ => false
  | _ => true
def noDcts : List D → Bool
  | [] => true
  | d :: ds => noDct d && noDcts ds
end
mutual
theorem Dt.dp {K : Fg} {F H : Hp} (l : Lk F H) : ∀ {v : V} {d : D}, Dt K F v d → noDct d = true → Dp K.fr H v d
  | _, _, .non, _ => .non
  | _, _, .bl b, _ => .bl b
  | _, _, .int b, _ => .int b
  | _, _, .str b, _ => .str b
  | _, _, .lst h t, n => .lst (SqL.of (l.lst h)) (t.dp l (by simpa [noDct] using n))
  | _, _, .tup h t, n => .tup (SqT.of (l.tup h)) (t.dp l (by simpa [noDct] using n))
  | _, _, .scr h, n => by simp [noDct] at n
  | _, _, .dk h t, n => by simp [noDct] at n
  | _, _, .dt h t, n => by simp [noDct] at n
theorem DtA.dp {K : Fg} {F H : Hp} (l : Lk F H) : ∀ {v : List V} {d : List D}, DtA K F v d → noDcts d = true → DpAll K.fr H v d
  | _, _, .nil, _ => .nil
  | _, _, .cons h t, n => by
    simp only [noDcts, Bool.and_eq_true] at n
    exact .cons (h.dp l n.1) (t.dp l n.2)
end
theorem Bv.dp {K : Fg} {F H : Hp} {v : V} {d : D} (h : Bv K F H v d) (l : Lk F H) (n : noDct d = true) : Dp K.fr H v d := by
  rcases h with h | ⟨p, rfl, _, ho⟩
  · exact h.dp l n
  · cases d with
    | list ds => obtain ⟨vs, e, t⟩ := ho; exact .lst (SqL.of e) (t.dp l (by simpa [noDct] using n))
    | dict es => simp [noDct] at n
    | _ => exact ho.elim
def gEqq (n : Bool) : D → D → Option D := fun a b => if (noDct a && SeqAt.shaped a && (noDct b && SeqAt.shaped b)) = true then some (.bool (xor n (PyData.eqv a b))) else match a, b with
  | .str x, .str y => some (.bool (xor n (x == y)))
  | _, _ => none
def gEq : D → D → Option D := gEqq false
def gNe : D → D → Option D := gEqq true
def rEqs (K : Fr) : R2 := fun x y H Q => rEqD K x y H Q ∨ rEq x y H Q
def rNes (K : Fr) : R2 := fun x y H Q => rNeD K x y H Q ∨ rNe x y H Q
theorem op_eqs {X : Cx} (hu : X.A.units + 64 < cLine) : OpR X (compareOp .Eq) (rEqs X.K) := OpR.or (op_eqD hu) op_eq
theorem op_nes {X : Cx} (hu : X.A.units + 64 < cLine) : OpR X (compareOp .NotEq) (rNes X.K) := OpR.or (op_neD hu) op_ne
theorem ok_eq {K : Fg} : Ok2 K (rEqs K.fr) gEq := fun {B F H σ env x y a b d Q} S ha hb e k => by
  unfold gEq gEqq at e
  split at e
  · rename_i h
    cases e
    simp only [Bool.and_eq_true] at h
    exact .inl ⟨_, _, ha.dp S.fh h.1.1, hb.dp S.fh h.2.1, h.1.2, h.2.2, by simpa using k _ F H S (Sub.refl _) (.bl _)⟩
  · split at e
    · cases e
      rw [ha.str_inv, hb.str_inv]
      exact .inr ⟨rfl, by rw [dec_str]; simpa using k _ F H S (Sub.refl _) (.bl _)⟩
    · cases e
theorem ok_ne {K : Fg} : Ok2 K (rNes K.fr) gNe := fun {B F H σ env x y a b d Q} S ha hb e k => by
  unfold gNe gEqq at e
  split at e
  · rename_i h
    cases e
    simp only [Bool.and_eq_true] at h
    exact .inl ⟨_, _, ha.dp S.fh h.1.1, hb.dp S.fh h.2.1, h.1.2, h.2.2, by simpa using k _ F H S (Sub.refl _) (.bl _)⟩
  · split at e
    · cases e
      rw [ha.str_inv, hb.str_inv]
      exact .inr ⟨rfl, by rw [dec_str]; simpa using k _ F H S (Sub.refl _) (.bl _)⟩
    · cases e

/-! ### isinstance(x, T), T a built-in class -/
def tyN : D → String
  | .none => "NoneType"
  | .bool _ => "bool"
  | .int _ => "int"
  | .str _ => "str"
  | .list _ => "list"
  | .tuple _ => "tuple"
  | .dict _ => "dict"
/-- is an object of the class named T one of U -/
def isT (T U : String) : Bool := T == U || (T == "bool" && U == "int")
/-- data whose class is told -/
def plainTy : D → Bool
  | .dict [] => true
  | .dict ((.int _, _) :: _) => true
  | .dict ((.str _, _) :: _) => true
  | .dict _ => false
  | _ => true
def gIsi (U : String) : D → Option D := fun d => if plainTy d = true then some (.bool (isT (tyN d) U)) else none
theorem Bv.tyX {K : Fg} {F H : Hp} {v : V} {d : D} (h : Bv K F H v d) (l : Lk F H) (n : plainTy d = true) : TyX K.fr H v (.type (tyN d)) := by
  cases d with
  | none => rw [h.none_inv]; exact .base .non
  | bool b => rw [h.bool_inv]; exact .base (.bl b)
  | int b => rw [h.int_inv]; exact .base (.int b)
  | str b => rw [h.str_inv]; exact .base (.str b)
  | list ds => obtain ⟨p, vs, rfl, e, _⟩ := h.lst l; exact .base (.lst e)
  | tuple ds => obtain ⟨p, vs, rfl, _, e, _⟩ := h.tup l; exact .base (.tup e)
  | dict es =>
    rcases h with h | ⟨p, rfl, _, ho⟩
    · cases h with
      | scr _ => cases n
      | dk e t =>
        rcases l _ _ e with q | ⟨_, ob, q⟩ | ⟨z, _⟩
        · exact .base (.dK q)
        · exact .fDict q
        · cases z
      | dt e t => cases n
      | exc _ _ => cases n
      | exf _ _ _ _ => cases n
      | fn _ => cases n
    · rcases ho with ⟨kvs, e, _⟩ | ⟨kvs, es', rfl, e, _⟩
      · exact .base (.dK e)
      · cases n
/-- the classes that are asked for -/
def knownTy (U : String) : Bool := ["NoneType", "bool", "int", "str", "list", "tuple", "dict"].all fun T => kitB T U == some (isT T U)
theorem kit_known {U : String} (h : knownTy U = true) (d : D) : kitB (tyN d) U = some (isT (tyN d) U) := by
  have h := List.all_eq_true.mp h
  have q : ∀ T, T ∈ ["NoneType", "bool", "int", "str", "list", "tuple", "dict"] → kitB T U = some (isT T U) := fun T hT => beq_iff_eq.mp (h T hT)
  cases d <;> exact q _ (by simp [tyN])
section
variable {X : Cx} {Tb : TbT} {e a b : Expr} {pos : Pos}
theorem de_isi {T : Str} {U : String} {p q : Pos} {o : Opd} (hk : knownTy U = true) (hg : Gl X "isinstance") (hm : X.mg "isinstance" = none) (ha : PE X e (tO (X.kg Tb) o)) (hgT : Gl X T) (hmT : X.mg T = none) (hvT : bootBuiltins T = some (.type U))
    (hnT : T ≠ "__name__" := by decide) (hdT : (T == ("__debug__" : Str)) = false := by decide) (he : starEach [e, .Name T q] X.env = [(false, eval e X.env), (false, eval (.Name T q) X.env)] := by rfl) (he2 : starEach [.Name T q] X.env = [(false, eval (.Name T q) X.env)] := by rfl)
    (hpl : (backTo pos (starEach [.Name T q] X.env)).any (·.1) = false := by rfl) : PE X (.Call (.Name "isinstance" p) [e, .Name T q] [] pos) (tD (X.kg Tb) (op1 (gIsi U) o)) :=
  PEi (pe_callB call_isi hg hm PyProof.Rows.boot_isinstance (pa_cons ha (pa_cons (pe_bltn (v := .ty U) hgT hmT hvT rfl hnT hdT) pa_nil he2) (by rw [he, he2])) (by decide) (by decide) (by rw [he, he2]) hpl) fun σ H Q ⟨B, F, env, d, env', S, ef, k⟩ => by
    obtain ⟨⟨u, e1⟩, q1, ef⟩ := bd ef
    obtain ⟨x, q2, ef⟩ := bd ef
    obtain ⟨d', q3, ef⟩ := bd ef
    cases ef
    unfold gIsi at q3
    split at q3
    · rename_i hp
      cases q3
      exact ⟨B, F, env, u, _, S, q1, fun v F1 H1 S1 s1 h1 => ⟨v, .ty U, .type (tyN x), .type U, _, rfl, .ty U, (h1.bv S1 q2).tyX S1.fh hp, kit_ty (kit_known hk x), k _ F1 H1 S1 s1 (.bl _)⟩⟩
    · cases q3
end
end DL

/-! DLh: built-ins, items, slices, displays, changes of lists. -/
namespace DL
open PySem L2

theorem DtK.key {K : Fg} {F : Hp} : ∀ {kvs : List (Key × V)} {es : List (D × D)}, DtK K F kvs es → ∀ q ∈ es, ∃ k, q.1 = kD k
  | _, _, .nil, q, h => nomatch h
  | _, _, .cons _ t, q, h => by
    rcases List.mem_cons.mp h with rfl | h
    · exact ⟨_, rfl⟩
    · exact t.key q h
theorem DtT.key {K : Fg} {F : Hp} : ∀ {kvs : List (List Key × V)} {es : List (D × D)}, DtT K F kvs es → ∀ q ∈ es, ∃ k : List Key, q.1 = .tuple (k.map kD)
  | _, _, .nil, q, h => nomatch h
  | _, _, .cons _ t, q, h => by
    rcases List.mem_cons.mp h with rfl | h
    · exact ⟨_, rfl⟩
    · exact t.key q h
/-! ### len, all, any, max, min, int, list, tuple -/
def gLen : List D → Option D
  | [.list ds] => some (.int ds.length)
  | [.tuple ds] => some (.int ds.length)
  | [.str x] => if x.length ≤ 100000 then some (.int x.length) else none
  | [.dict [(.none, .list ds)]] => some (.int ds.length)
  | _ => none
def rLen1 (K : Fr) : List V → Hp → VK → Prop := fun xs H Q => ∃ x n, xs = [x] ∧ LenV K x H n ∧ Q (.int n) H
theorem call_len1 {X : Cx} : CallR X (.builtin "len") (rLen1 X.K) := call_len
theorem kD_none {k : Key} (h : (PyData.none : D) = kD k) : False := by
  cases k <;> cases h
theorem Bv.scr {K : Fg} {F H : Hp} {v : V} {ds : List D} (h : Bv K F H v (.dict [(.none, .list ds)])) (l : Lk F H) : ∃ (p : Addr) (ns : List Int), v = .ref p ∧ SqL K.fr H p (ns.map V.int) ∧ ds = ns.map .int := by
  rcases h with h | ⟨p, rfl, _, ho⟩
  · cases h with
    | scr h => exact ⟨_, _, rfl, l.sqL h, rfl⟩
    | dk e t =>
      obtain ⟨k, q⟩ := t.key _ List.mem_cons_self
      exact (kD_none q).elim
  · rcases ho with ⟨kvs, e, t⟩ | ⟨kvs, es', e0, e, t⟩
    · obtain ⟨k, q⟩ := t.key _ List.mem_cons_self
      exact (kD_none q).elim
    · cases e0
theorem ok_len {K : Fg} : OkA K (rLen1 K.fr) gLen := fun {B F H σ env xs ds d Q} S h e k => by
  unfold gLen at e
  split at e
  · cases e
    obtain ⟨v, rfl, h0⟩ := h.one
    obtain ⟨p, vs, rfl, hp, t⟩ := h0.lst S.fh
    refine ⟨_, _, rfl, .inl ⟨vs, SqL.of hp, rfl⟩, ?_⟩
    rw [t.length]
    exact k _ F H S (Sub.refl _) (.int _)
  · cases e
    obtain ⟨v, rfl, h0⟩ := h.one
    obtain ⟨p, vs, rfl, _, hp, t⟩ := h0.tup S.fh
    refine ⟨_, _, rfl, .inr ⟨vs, SqT.of hp, rfl⟩, ?_⟩
    rw [t.length]
    exact k _ F H S (Sub.refl _) (.int _)
  · split at e
    · rename_i hl
      cases e
      obtain ⟨v, rfl, h0⟩ := h.one
      rw [h0.str_inv]
      exact ⟨_, _, rfl, ⟨szL hl, rfl⟩, k _ F H S (Sub.refl _) (.int _)⟩
    · cases e
  · cases e
    obtain ⟨v, rfl, h0⟩ := h.one
    obtain ⟨p, ns, rfl, hp, rfl⟩ := h0.scr S.fh
    refine ⟨_, _, rfl, .inl ⟨_, hp, rfl⟩, ?_⟩
    rw [List.length_map]
    rw [List.length_map] at k
    exact k _ F H S (Sub.refl _) (.int _)
  · cases e
def boolsOf : List D → Option (List Bool)
  | [] => some []
  | .bool b :: r => (boolsOf r).bind fun bs => some (b :: bs)
  | _ :: _ => none
theorem bools_vals {K : Fg} {F : Hp} : ∀ {ds : List D} {vs : List V} {bs : List Bool}, DtA K F vs ds → boolsOf ds = some bs → vs = bs.map V.bl
  | [], _, _, .nil, e => by cases e; rfl
  | .bool b :: r, _, bs, .cons h t, e => by
    obtain ⟨bs', q, e⟩ := bd (show (boolsOf r).bind (fun bs => some (b :: bs)) = some bs from e)
    cases e
    rw [h.bool_inv, bools_vals t q]
    rfl
  | .none :: _, _, _, _, e => by cases e
  | .int _ :: _, _, _, _, e => by cases e
  | .str _ :: _, _, _, _, e => by cases e
  | .list _ :: _, _, _, _, e => by cases e
  | .tuple _ :: _, _, _, _, e => by cases e
  | .dict _ :: _, _, _, _, e => by cases e
def gAll : List D → Option D
  | [.list ds] => (boolsOf ds).bind fun bs => some (.bool (bs.all id))
  | _ => none
def gAny : List D → Option D
  | [.list ds] => (boolsOf ds).bind fun bs => some (.bool (bs.any id))
  | _ => none
theorem ok_all {K : Fg} : OkA K (rAll K.fr) gAll := fun {B F H σ env xs ds d Q} S h e k => by
  unfold gAll at e
  split at e
  · obtain ⟨bs, q, e⟩ := bd e
    cases e
    obtain ⟨v, rfl, h0⟩ := h.one
    obtain ⟨p, vs, rfl, hp, t⟩ := h0.lst S.fh
    exact ⟨p, bs, rfl, by rw [← bools_vals t q]; exact SqL.of hp, k _ F H S (Sub.refl _) (.bl _)⟩
  · cases e
theorem ok_any {K : Fg} : OkA K (rAny K.fr) gAny := fun {B F H σ env xs ds d Q} S h e k => by
  unfold gAny at e
  split at e
  · obtain ⟨bs, q, e⟩ := bd e
    cases e
    obtain ⟨v, rfl, h0⟩ := h.one
    obtain ⟨p, vs, rfl, hp, t⟩ := h0.lst S.fh
    exact ⟨p, bs, rfl, by rw [← bools_vals t q]; exact SqL.of hp, k _ F H S (Sub.refl _) (.bl _)⟩
  · cases e
def gMax2 : List D → Option D
  | [.int i, .int j] => some (.int (if j > i then j else i))
  | _ => none
def gMin2 : List D → Option D
  | [.int i, .int j] => some (.int (if j < i then j else i))
  | _ => none
def rMax2' : List V → Hp → VK → Prop := fun xs H Q => ∃ i j, xs = [.int i, .int j] ∧ Q (.int (if j > i then j else i)) H
def rMin2' : List V → Hp → VK → Prop := fun xs H Q => ∃ i j, xs = [.int i, .int j] ∧ Q (.int (if j < i then j else i)) H
theorem ok_max2 {K : Fg} : OkA K rMax2' gMax2 := fun {B F H σ env xs ds d Q} S h e k => by
  unfold gMax2 at e
  split at e
  · cases e
    obtain ⟨v, w, rfl, h1, h2⟩ := h.two
    exact ⟨_, _, by rw [h1.int_inv, h2.int_inv], k _ F H S (Sub.refl _) (.int _)⟩
  · cases e
theorem ok_min2 {K : Fg} : OkA K rMin2' gMin2 := fun {B F H σ env xs ds d Q} S h e k => by
  unfold gMin2 at e
  split at e
  · cases e
    obtain ⟨v, w, rfl, h1, h2⟩ := h.two
    exact ⟨_, _, by rw [h1.int_inv, h2.int_inv], k _ F H S (Sub.refl _) (.int _)⟩
  · cases e
def gInt : List D → Option D
  | [.int i] => some (.int i)
  | [.bool b] => some (.int (if b then 1 else 0))
  | _ => none
def rInt1 : List V → Hp → VK → Prop := fun xs H Q => (∃ i, xs = [.int i] ∧ Q (.int i) H) ∨ ∃ k, xs = [.bl k] ∧ Q (.int (if k then 1 else 0)) H
theorem ok_int {K : Fg} : OkA K rInt1 gInt := fun {B F H σ env xs ds d Q} S h e k => by
  unfold gInt at e
  split at e
  · cases e
    obtain ⟨v, rfl, h0⟩ := h.one
    exact .inl ⟨_, by rw [h0.int_inv], k _ F H S (Sub.refl _) (.int _)⟩
  · cases e
    obtain ⟨v, rfl, h0⟩ := h.one
    exact .inr ⟨_, by rw [h0.bool_inv], k _ F H S (Sub.refl _) (.int _)⟩
  · cases e
def gList : List D → Option D
  | [.list ds] => some (.list ds)
  | [.tuple ds] => some (.list ds)
  | _ => none
def rListOf (K : Fr) : List V → Hp → VK → Prop := fun xs H Q => ∃ p ys, xs = [.ref p] ∧ (SqL K H p ys ∨ SqT K H p ys) ∧ ∀ l, H l = none → Q (.ref l) (upd H l (.lst ys))
theorem ok_list {K : Fg} : OkAN K (rListOf K.fr) gList := fun {B F H σ env xs ds d Q} S h e k => by
  unfold gList at e
  split at e
  · cases e
    obtain ⟨v, rfl, h0⟩ := h.one
    obtain ⟨p, vs, rfl, hp, t⟩ := h0.lst S.fh
    exact ⟨p, vs, rfl, .inl (SqL.of hp), fun r hr => k.at_new S hr ⟨_, upd_same, t⟩⟩
  · cases e
    obtain ⟨v, rfl, h0⟩ := h.one
    obtain ⟨p, vs, rfl, _, hp, t⟩ := h0.tup S.fh
    exact ⟨p, vs, rfl, .inr (SqT.of hp), fun r hr => k.at_new S hr ⟨_, upd_same, t⟩⟩
  · cases e
def gTuple : List D → Option D
  | [.list ds] => some (.tuple ds)
  | [.tuple ds] => some (.tuple ds)
  | _ => none
def rTupOf (K : Fr) : List V → Hp → VK → Prop := fun xs H Q => ∃ p ys, xs = [.ref p] ∧ ((SqL K H p ys ∧ ∀ l, H l = none → Q (.ref l) (upd H l (.tup ys))) ∨ (SqT K H p ys ∧ Q (.ref p) H))
theorem ok_tuple {K : Fg} : OkA K (rTupOf K.fr) gTuple := fun {B F H σ env xs ds d Q} S h e k => by
  unfold gTuple at e
  split at e
  · cases e
    obtain ⟨v, rfl, h0⟩ := h.one
    obtain ⟨p, vs, rfl, hp, t⟩ := h0.lst S.fh
    exact ⟨p, vs, rfl, .inl ⟨SqL.of hp, fun r hr => k _ _ _ (S.new hr) (S.subNew hr) (.tup upd_same (t.mono (S.subNew hr)))⟩⟩
  · cases e
    obtain ⟨v, rfl, h0⟩ := h.one
    obtain ⟨p, vs, rfl, f, hp, t⟩ := h0.tup S.fh
    exact ⟨p, vs, rfl, .inr ⟨SqT.of hp, k _ F H S (Sub.refl _) (.tup f t)⟩⟩
  · cases e

/-! ### x[i] -/
def gIx : D → D → Option D
  | .list ds, .int i => atI ds i
  | .tuple ds, .int i => atI ds i
  | .dict [(.none, .list ds)], .int i => atI ds i
  | .str z, .int i => if z.length ≤ 100000 then (atI z.cps.toList i).bind fun c => some (.str ⟨#[c]⟩) else none
  | _, _ => none
theorem DtA.at {K : Fg} {F : Hp} {vs : List V} {ds : List D} {i : Int} {d : D} (t : DtA K F vs ds) (h : atI ds i = some d) : ∃ v, atI vs i = some v ∧ Dt K F v d := by
  unfold atI at h ⊢
  rw [t.length]
  obtain ⟨j, q, h⟩ := bd h
  rw [q]
  exact t.get h
theorem ok_ix {K : Fg} : Ok2 K (rIx K.fr) gIx := fun {B F H σ env x y a b d Q} S ha hb e k => by
  unfold gIx at e
  split at e
  · obtain ⟨p, vs, rfl, hp, t⟩ := ha.lst S.fh
    obtain ⟨v, h1, h2⟩ := t.at e
    exact .inl ⟨p, vs, _, v, rfl, hb.int_inv, SqL.of hp, h1, k _ F H S (Sub.refl _) h2⟩
  · obtain ⟨p, vs, rfl, _, hp, t⟩ := ha.tup S.fh
    obtain ⟨v, h1, h2⟩ := t.at e
    exact .inr (.inl ⟨p, vs, _, v, rfl, hb.int_inv, SqT.of hp, h1, k _ F H S (Sub.refl _) h2⟩)
  · obtain ⟨p, ns, rfl, hp, rfl⟩ := ha.scr S.fh
    have t : DtA K F (ns.map V.int) (ns.map .int) := by
      clear hp e k ha
      induction ns with
      | nil => exact .nil
      | cons n r ih => exact .cons (.int n) ih
    obtain ⟨v, h1, h2⟩ := t.at e
    exact .inl ⟨p, _, _, v, rfl, hb.int_inv, hp, h1, k _ F H S (Sub.refl _) h2⟩
  · split at e
    · rename_i hl
      obtain ⟨c, q, e⟩ := bd e
      cases e
      exact .inr (.inr ⟨_, _, c, ha.str_inv, hb.int_inv, szL hl, q, k _ F H S (Sub.refl _) (.str _)⟩)
    · cases e
  · cases e
section
variable {X : Cx} {Tb : TbT} {e a b : Expr} {es : List Expr} {pos : Pos}
theorem de_ix {oa ob : Opd} (ha : PE X a (tO (X.kg Tb) oa)) (hb : PE X b (tO (X.kg Tb) ob)) (hs : PlainIx b) : PE X (.Subscript a b pos) (tD (X.kg Tb) (op2 gIx oa ob)) := PEi (pe_ix ix_seq ha hb hs) (op2_le ok_ix)
end

/-! ### x[lo:hi] -/
def cutD (xs : List D) (lo hi : Option Int) : List D := (xs.drop (HT.sIx xs.length 0 lo)).take (HT.sIx xs.length xs.length hi - HT.sIx xs.length 0 lo)
theorem DtA.cut {K : Fg} {F : Hp} {vs : List V} {ds : List D} (t : DtA K F vs ds) (lo hi : Option Int) : DtA K F (cutV vs lo hi) (cutD ds lo hi) := by
  unfold cutV cutD
  rw [t.length]
  exact (t.drop _).take _
/-- a slice's part -/
abbrev Pf := En → Option (Option Int × En)
def pNo : Pf := fun env => some (none, env)
def pAt (f : Df) : Pf := fun env => (f env).bind fun r => match r.1 with
  | .int i => some (some i, r.2)
  | _ => none
def tP (K : Fg) (f : Pf) : TO := fun σ H Q => ∃ B F env o env', Sl K B F H σ env ∧ f env = some (o, env') ∧ ∀ F' H', Sl K B F' H' σ env' → Sub F F' → Q o H'
def eSlice (g : D → Option Int → Option Int → Option D) (a : Opd) (lo hi : Pf) : Df := fun env => (a.ev env).bind fun r => (lo r.2).bind fun l => (hi l.2).bind fun h => (r.1.look h.2).bind fun x => (g x l.1 h.1).bind fun d => some (d, h.2)
def gCut : D → Option Int → Option Int → Option D
  | .list ds, lo, hi => some (.list (cutD ds lo hi))
  | .tuple ds, lo, hi => some (.tuple (cutD ds lo hi))
  | _, _, _ => none
def gCutL : D → Option Int → Option Int → Option D
  | .list ds, lo, hi => some (.list (cutD ds lo hi))
  | _, _, _ => none
def rCuts (K : Fr) : V → Option Int → Option Int → Hp → VK → Prop := fun x lo hi H Q => rSlL K x lo hi H Q ∨ rSlA K x lo hi H Q
theorem cut_whole {xs : List D} {lo hi : Option Int} (h : HT.sIx xs.length 0 lo = 0 ∧ HT.sIx xs.length xs.length hi = xs.length) : cutD xs lo hi = xs := by
  unfold cutD
  rw [h.1, h.2]
  simp
section
variable {X : Cx} {Tb : TbT} {e a b : Expr} {es : List Expr} {lo hi : Option Expr} {p2 pos : Pos}
theorem dp_none : PO X none (tP (X.kg Tb) pNo) := ⟨fun pins s σ H Q I h => by
  obtain ⟨B, F, env, o, env', S, ef, k⟩ := h
  cases ef
  exact po_none.run pins s σ H Q I (k F H S (Sub.refl F))⟩
theorem dp_some {f : Df} (h : PE X e (tD (X.kg Tb) f)) : PO X (some e) (tP (X.kg Tb) (pAt f)) := ⟨fun pins s σ H Q I hw => by
  obtain ⟨B, F, env, o, env', S, ef, k⟩ := hw
  obtain ⟨⟨d, e1⟩, q, ef⟩ := bd ef
  cases d <;> first | (cases ef; done) | skip
  cases ef
  exact (po_some h).run pins s σ H Q I ⟨B, F, env, _, _, S, q, fun v F' H' S' s' hd => ⟨_, hd.int_inv, k F' H' S' s'⟩⟩⟩
theorem de_slice {oa : Opd} {fl fh : Pf} (ha : PE X a (tO (X.kg Tb) oa)) (hl : PO X lo (tP (X.kg Tb) fl)) (hh : PO X hi (tP (X.kg Tb) fh)) : PE X (.Subscript a (.Slice lo hi none p2) pos) (tD (X.kg Tb) (eSlice gCut oa fl fh)) :=
  PEi (pe_slice (SlR.or sl_list sl_tupA) ha hl hh) fun σ H Q ⟨B, F, env, d, env', S, ef, k⟩ => by
    obtain ⟨⟨u, e1⟩, q1, ef⟩ := bd ef
    obtain ⟨⟨l, e2⟩, q2, ef⟩ := bd ef
    obtain ⟨⟨h, e3⟩, q3, ef⟩ := bd ef
    obtain ⟨x, q4, ef⟩ := bd ef
    obtain ⟨d', q5, ef⟩ := bd ef
    cases ef
    refine ⟨B, F, env, u, e1, S, q1, fun v F1 H1 S1 s1 h1 => ⟨B, F1, e1, l, e2, S1, q2, fun F2 H2 S2 s2 => ⟨B, F2, e2, h, _, S2, q3, fun F3 H3 S3 s3 => ?_⟩⟩⟩
    have hx := ((h1.mono s2).mono s3).bv S3 q4
    have ss : Sub F F3 := (s1.trans s2).trans s3
    unfold gCut at q5
    split at q5
    · cases q5
      obtain ⟨p, vs, rfl, hp, t⟩ := hx.lst S3.fh
      exact .inl ⟨p, vs, rfl, SqL.of hp, fun r hr => k _ _ _ (S3.new hr) (ss.trans (S3.subNew hr)) (.lst upd_same ((t.cut l h).mono (S3.subNew hr)))⟩
    · rename_i ds
      cases q5
      obtain ⟨p, vs, rfl, f, hp, t⟩ := hx.tup S3.fh
      refine .inr ⟨p, vs, rfl, SqT.of hp, fun w => ?_, fun _ r hr => k _ _ _ (S3.new hr) (ss.trans (S3.subNew hr)) (.tup upd_same ((t.cut l h).mono (S3.subNew hr)))⟩
      rw [t.length] at w
      rw [cut_whole w] at k
      exact k _ F3 H3 S3 ss (.tup f t)
    · cases q5
theorem de_sliceN {oa : Opd} {fl fh : Pf} (ha : PE X a (tO (X.kg Tb) oa)) (hl : PO X lo (tP (X.kg Tb) fl)) (hh : PO X hi (tP (X.kg Tb) fh)) : PE X (.Subscript a (.Slice lo hi none p2) pos) (tN (X.kg Tb) (eSlice gCutL oa fl fh)) :=
  PEi (pe_slice sl_list ha hl hh) fun σ H Q ⟨B, F, env, d, env', S, ef, k⟩ => by
    obtain ⟨⟨u, e1⟩, q1, ef⟩ := bd ef
    obtain ⟨⟨l, e2⟩, q2, ef⟩ := bd ef
    obtain ⟨⟨h, e3⟩, q3, ef⟩ := bd ef
    obtain ⟨x, q4, ef⟩ := bd ef
    obtain ⟨d', q5, ef⟩ := bd ef
    cases ef
    refine ⟨B, F, env, u, e1, S, q1, fun v F1 H1 S1 s1 h1 => ⟨B, F1, e1, l, e2, S1, q2, fun F2 H2 S2 s2 => ⟨B, F2, e2, h, _, S2, q3, fun F3 H3 S3 s3 => ?_⟩⟩⟩
    have hx := ((h1.mono s2).mono s3).bv S3 q4
    have ss : Sub F F3 := (s1.trans s2).trans s3
    unfold gCutL at q5
    split at q5
    · cases q5
      obtain ⟨p, vs, rfl, hp, t⟩ := hx.lst S3.fh
      refine ⟨p, vs, rfl, SqL.of hp, fun r hr => ?_⟩
      have kk : KN (X.kg Tb) B F3 σ _ (.list (cutD _ l h)) Q := fun p' F' H' S' s' a1 a2 a3 a4 a5 => k p' F' H' S' (ss.trans s') a1 a2 a3 a4 a5
      exact kk.at_new S3 hr ⟨_, upd_same, t.cut l h⟩
    · cases q5
end

/-! ### displays -/
def fzAll : List OV → Option (List D)
  | [] => some []
  | .fz d :: r => (fzAll r).bind fun ds => some (d :: ds)
  | .sl _ :: _ => none
theorem fzAll_dt {K : Fg} {F : Hp} {σ : L2.St} : ∀ {us : List OV} {vs : List V} {ds : List D}, OVA K F σ us vs → fzAll us = some ds → DtA K F vs ds
  | [], [], _, _, e => by cases e; exact .nil
  | .fz d :: us, v :: vs, ds, h, e => by
    obtain ⟨ds', q, e⟩ := bd (show (fzAll us).bind (fun ds => some (d :: ds)) = some ds from e)
    cases e
    exact .cons h.1 (fzAll_dt h.2 q)
  | .sl _ :: _, _, _, _, e => by cases e
  | [], _ :: _, _, h, _ => h.elim
  | .fz _ :: _, [], _, h, _ => h.elim
def eTup (os : List Opd) : Df := fun env => (evs os env).bind fun r => (fzAll r.1).bind fun ds => if ds.length ≤ 100000 then some (.tuple ds, r.2) else none
def eLst (os : List Opd) : Df := fun env => (evs os env).bind fun r => (fzAll r.1).bind fun ds => if ds.length ≤ 100000 then some (.list ds, r.2) else none
section
variable {X : Cx} {Tb : TbT} {e a b : Expr} {es : List Expr} {pos : Pos}
theorem de_tup {os : List Opd} {x1 : Nat} (h : PA X es (tAr (X.kg Tb) os)) : PE X (.Tuple es x1 pos) (tD (X.kg Tb) (eTup os)) := PEi (pe_tup h) fun σ H Q ⟨B, F, env, d, env', S, ef, k⟩ => by
  obtain ⟨⟨us, e1⟩, q1, ef⟩ := bd ef
  obtain ⟨ds, q2, ef⟩ := bd ef
  by_cases hl : ds.length ≤ 100000
  · rw [if_pos hl] at ef
    cases ef
    refine ⟨B, F, env, us, _, S, q1, fun vs F1 H1 S1 s1 h1 => ?_⟩
    have t := fzAll_dt h1 q2
    exact ⟨szL (by rw [t.length]; exact hl), fun p hp => k _ _ _ (S1.new hp) (s1.trans (S1.subNew hp)) (.tup upd_same (t.mono (S1.subNew hp)))⟩
  · rw [if_neg hl] at ef; cases ef
theorem de_lst {os : List Opd} (h : PA X es (tAr (X.kg Tb) os)) : PE X (.List es pos) (tN (X.kg Tb) (eLst os)) := PEi (pe_lst h) fun σ H Q ⟨B, F, env, d, env', S, ef, k⟩ => by
  obtain ⟨⟨us, e1⟩, q1, ef⟩ := bd ef
  obtain ⟨ds, q2, ef⟩ := bd ef
  by_cases hl : ds.length ≤ 100000
  · rw [if_pos hl] at ef
    cases ef
    refine ⟨B, F, env, us, _, S, q1, fun vs F1 H1 S1 s1 h1 => ?_⟩
    have t := fzAll_dt h1 q2
    refine ⟨szL (by rw [t.length]; exact hl), fun p hp => ?_⟩
    have kk : KN (X.kg Tb) B F1 σ _ (.list ds) Q := fun p' F' H' S' s' a1 a2 a3 a4 a5 => k p' F' H' S' (s1.trans s') a1 a2 a3 a4 a5
    exact kk.at_new S1 hp ⟨_, upd_same, t⟩
  · rw [if_neg hl] at ef; cases ef
end

/-! ### a name's own list is changed -/
def chgAt (i : Nat) (g : D → Option D) (env : En) : Option En := match env[i]? with
  | some (.ow d) => (g d).bind fun d' => some (env.set i (.ow d'))
  | some (.pw d) => (g d).bind fun d' => some (env.set i (.pw d'))
  | _ => none
theorem chgAt_inv {i : Nat} {g : D → Option D} {env e : En} (h : chgAt i g env = some e) : ∃ d d' x, IsOw env i d ∧ g d = some d' ∧ ((env[i]? = some (.ow d) ∧ x = .ow d') ∨ (env[i]? = some (.pw d) ∧ x = .pw d')) ∧ e = env.set i x := by
  unfold chgAt at h
  split at h
  · rename_i d q
    obtain ⟨d', q2, h⟩ := bd h
    cases h
    exact ⟨d, d', _, .inl q, q2, .inl ⟨q, rfl⟩, rfl⟩
  · rename_i d q
    obtain ⟨d', q2, h⟩ := bd h
    cases h
    exact ⟨d, d', _, .inr q, q2, .inr ⟨q, rfl⟩, rfl⟩
  · cases h
/-- xs.append(e) -/
def gApp (x : D) : D → Option D
  | .list ds => if ds.length < 100000 then some (.list (ds ++ [x])) else none
  | _ => none
/-- xs.m(..): the arguments, then the name's object is changed -/
def ownL : Option Sv → Option (List D)
  | some (.ow (.list ds)) => some ds
  | some (.pw (.list ds)) => some ds
  | _ => none
theorem ownL_inv {i : Nat} {env : En} {ds : List D} (h : ownL env[i]? = some ds) : IsOw env i (.list ds) := by
  unfold ownL at h
  split at h
  · rename_i q; cases h; exact .inl q
  · rename_i q; cases h; exact .inr q
  · cases h
def eMeth (i : Nat) (g : List D → D → Option D) (os : List Opd) : Df := fun env => (ownL env[i]?).bind fun _ => (evs os env).bind fun r => (fzAll r.1).bind fun ds => (chgAt i (g ds) r.2).bind fun e => some (.none, e)
def gAppend : List D → D → Option D
  | [x], .list ds => if ds.length < 100000 then some (.list (ds ++ [x])) else none
  | _, _ => none
def gInsert : List D → D → Option D
  | [.int i, x], .list ds => if ds.length < 100000 ∧ 0 ≤ i ∧ i < 2 ^ 63 then some (.list (ds.take i.toNat ++ [x] ++ ds.drop i.toNat)) else none
  | _, _ => none
/-- what a method of a list does to it -/
def OkM (K : Fg) (r : V → List V → Hp → VK → Prop) (g : List D → D → Option D) : Prop := ∀ {F H : Hp} {p : Addr} {vs ws : List V} {ds xs : List D} {d' : D} {Q : VK}, H p = some (.lst vs) → DtA K F vs ds → DtA K F ws xs → g xs (.list ds) = some d' →
  (∀ o, Own K F (upd H p o) p d' → Q .non (upd H p o)) → r (.ref p) ws H Q
def gLst : D → Option (List D)
  | .list ds => some ds
  | _ => none
theorem DtA.one {K : Fg} {F : Hp} {vs : List V} {d : D} (h : DtA K F vs [d]) : ∃ v, vs = [v] ∧ Dt K F v d := by
  cases h with
  | cons h t => cases t; exact ⟨_, rfl, h⟩
theorem DtA.two {K : Fg} {F : Hp} {vs : List V} {d e : D} (h : DtA K F vs [d, e]) : ∃ v w, vs = [v, w] ∧ Dt K F v d ∧ Dt K F w e := by
  cases h with
  | cons h t => obtain ⟨w, rfl, q⟩ := t.one; exact ⟨_, _, rfl, h, q⟩
theorem okm_append {K : Fg} : OkM K rAppend gAppend := fun {F H p vs ws ds xs d' Q} hp t tx e k => by
  unfold gAppend at e
  split at e
  · split at e
    · rename_i hl
      cases e
      obtain ⟨v, rfl, hv⟩ := tx.one
      rename_i ds' _ _ z
      cases z
      exact ⟨p, vs, v, rfl, rfl, hp, szL' (by rw [t.length]; exact hl), k _ ⟨_, upd_same, t.append (.cons hv .nil)⟩⟩
    · cases e
  · cases e
def rInsert : V → List V → Hp → VK → Prop := fun x vs H Q => ∃ (l : Addr) (xs : List V) (i : Int) (y : V), x = .ref l ∧ vs = [.int i, y] ∧ H l = some (.lst xs) ∧ xs.length < sizeLine ∧ 0 ≤ i ∧ i < 2 ^ 63 ∧ Q .non (upd H l (.lst (xs.take i.toNat ++ [y] ++ xs.drop i.toNat)))
theorem okm_insert {K : Fg} : OkM K rInsert gInsert := fun {F H p vs ws ds xs d' Q} hp t tx e k => by
  unfold gInsert at e
  split at e
  · split at e
    · rename_i hl
      cases e
      obtain ⟨v, w, rfl, hv, hw⟩ := tx.two
      rename_i ds' _ _ z
      cases z
      exact ⟨p, vs, _, w, rfl, by rw [hv.int_inv], hp, szL' (by rw [t.length]; exact hl.1), hl.2.1, hl.2.2, k _ ⟨_, upd_same, ((t.take _).append (.cons hw .nil)).append (t.drop _)⟩⟩
    · cases e
  · cases e
section
variable {X : Cx} {Tb : TbT} {e a b : Expr} {es : List Expr} {pos apos cpos : Pos} {x name : Str} {id : String}
theorem de_lm {i : Nat} {r : V → List V → Hp → VK → Prop} {g : List D → D → Option D} {os : List Opd} (slot : Slot "list" name id) (hty : typeOf (.builtin id) = pure (.type "method_descriptor")) (hm : MtR X id r) (hk : OkM (X.kg Tb) r g) (hgl : ∀ ds d d', g ds d = some d' → ∃ l, d = .list l)
    (ha : PA X (e :: es) (tAr (X.kg Tb) os)) (hN : X.N[i]? = some x := by rfl) (hv : Vis X.env.scope x := by first | exact Or.inl rfl | exact Or.inr (Or.inl rfl) | exact Or.inr (Or.inr rfl)) (hd : (x == ("__debug__" : Str)) = false := by decide) (hcd : (x == ("__classdict__" : Str)) = false := by decide)
    (hbase : attributeBase (.Name x pos) name X.env (eval (.Name x pos) X.env) = eval (.Name x pos) X.env := by rfl)
    (hfew : ((backTo cpos (starEach (e :: es) X.env)).all (fun x => !x.1) && (backToKw cpos (keywordEach [] X.env)).all (fun x => x.1.isSome)
      && decide ((e :: es).length + ([] : List Keyword).length + (if ([] : List Keyword).isEmpty then 0 else 1) < 30)) = true := by rfl)
    (hline : (apos.endLine == cpos.line) = true := by rfl) (hs : starEach (e :: es) X.env = (false, eval e X.env) :: starEach es X.env := by rfl) (hplain : (backTo cpos (starEach es X.env)).any (·.1) = false := by rfl) :
    PE X (.Call (.Attribute (.Name x pos) name apos) (e :: es) [] cpos) (tD (X.kg Tb) (eMeth i g os)) :=
  PEi (pe_bm PySem.F.plainAttrs_list slot hty hm (pe_var hN hv hd hcd) ha hbase hfew hline hs hplain) fun σ H Q ⟨B, F, env, d, env', S, ef, k⟩ => by
    obtain ⟨ov, q0, ef⟩ := bd ef
    obtain ⟨⟨us, e1⟩, q1, ef⟩ := bd ef
    obtain ⟨ds, q2, ef⟩ := bd ef
    obtain ⟨e2, q3, ef⟩ := bd ef
    cases ef
    obtain ⟨d0, d1, y, ow, hg, hx, rfl⟩ := chgAt_inv q3
    obtain ⟨l0, rfl⟩ := hgl _ _ _ hg
    obtain ⟨p, h1, h2, ⟨vs, h3, h4⟩, _⟩ := S.own i _ (ownL_inv q0)
    refine ⟨_, h1, .inl ⟨rfl, vs, SqL.of h3⟩, B, F, env, us, e1, S, q1, fun ws F1 H1 S1 s1 ha1 => ?_⟩
    obtain ⟨p', g1, g2, ⟨vs', g3, g4⟩, _⟩ := S1.own i _ ow
    rw [h1] at g1; cases g1
    exact hk g3 g4 (fzAll_dt ha1 q2) hg fun o ho => k _ F1 _ (S1.chg ow h1 hx ho) s1 .non
theorem de_append {i : Nat} {os : List Opd} (ha : PA X [e] (tAr (X.kg Tb) os)) (hN : X.N[i]? = some x := by rfl) (hv : Vis X.env.scope x := by first | exact Or.inl rfl | exact Or.inr (Or.inl rfl) | exact Or.inr (Or.inr rfl)) (hd : (x == ("__debug__" : Str)) = false := by decide) (hcd : (x == ("__classdict__" : Str)) = false := by decide)
    (hbase : attributeBase (.Name x pos) "append" X.env (eval (.Name x pos) X.env) = eval (.Name x pos) X.env := by rfl)
    (hfew : ((backTo cpos (starEach [e] X.env)).all (fun x => !x.1) && (backToKw cpos (keywordEach [] X.env)).all (fun x => x.1.isSome)
      && decide ([e].length + ([] : List Keyword).length + (if ([] : List Keyword).isEmpty then 0 else 1) < 30)) = true := by rfl)
    (hline : (apos.endLine == cpos.line) = true := by rfl) (hs : starEach [e] X.env = (false, eval e X.env) :: starEach [] X.env := by rfl) (hplain : (backTo cpos (starEach [] X.env)).any (·.1) = false := by rfl) :
    PE X (.Call (.Attribute (.Name x pos) "append" apos) [e] [] cpos) (tD (X.kg Tb) (eMeth i gAppend os)) :=
  de_lm PySem.F.slot_list_append PySem.F.type_list_append mt_append okm_append (fun ds d d' h => by
    unfold gAppend at h
    split at h
    · exact ⟨_, rfl⟩
    · cases h) ha hN hv hd hcd hbase hfew hline hs hplain
theorem de_insert {i : Nat} {os : List Opd} (ha : PA X [a, b] (tAr (X.kg Tb) os)) (hN : X.N[i]? = some x := by rfl) (hv : Vis X.env.scope x := by first | exact Or.inl rfl | exact Or.inr (Or.inl rfl) | exact Or.inr (Or.inr rfl)) (hd : (x == ("__debug__" : Str)) = false := by decide) (hcd : (x == ("__classdict__" : Str)) = false := by decide)
    (hbase : attributeBase (.Name x pos) "insert" X.env (eval (.Name x pos) X.env) = eval (.Name x pos) X.env := by rfl)
    (hfew : ((backTo cpos (starEach [a, b] X.env)).all (fun x => !x.1) && (backToKw cpos (keywordEach [] X.env)).all (fun x => x.1.isSome)
      && decide ([a, b].length + ([] : List Keyword).length + (if ([] : List Keyword).isEmpty then 0 else 1) < 30)) = true := by rfl)
    (hline : (apos.endLine == cpos.line) = true := by rfl) (hs : starEach [a, b] X.env = (false, eval a X.env) :: starEach [b] X.env := by rfl) (hplain : (backTo cpos (starEach [b] X.env)).any (·.1) = false := by rfl) :
    PE X (.Call (.Attribute (.Name x pos) "insert" apos) [a, b] [] cpos) (tD (X.kg Tb) (eMeth i gInsert os)) :=
  de_lm PySem.F.slot_list_insert PySem.F.type_list_insert mt_insert okm_insert (fun ds d d' h => by
    unfold gInsert at h
    split at h
    · exact ⟨_, rfl⟩
    · cases h) ha hN hv hd hcd hbase hfew hline hs hplain
/-- xs[i] = e, xs one's own -/
def sSetIx (i : Nat) (f : Df) (ob : Opd) : Sf := fun env => (f env).bind fun r => (ownL r.2[i]?).bind fun _ => (ob.ev r.2).bind fun t => (t.1.look t.2).bind fun y => (chgAt i (gSetL y r.1) t.2).bind fun e => some (.nx e)
where gSetL : D → D → D → Option D
  | .int k, x, .list ds => (ixN ds.length k).bind fun j => some (.list (ds.set j x))
  | _, _, _ => none
theorem dS_setIx {wh : Wh} {i : Nat} {ob : Opd} {f : Df} {p1 p2 : Pos} (he : PE X e (tD (X.kg Tb) f)) (hb : PE X b (tO (X.kg Tb) ob)) (hN : X.N[i]? = some x := by rfl) (hv : Vis X.env.scope x := by first | exact Or.inl rfl | exact Or.inr (Or.inl rfl) | exact Or.inr (Or.inr rfl)) (hd : (x == ("__debug__" : Str)) = false := by decide) (hcd : (x == ("__classdict__" : Str)) = false := by decide)
    (ha : ∀ v, assign (.Subscript (.Name x p1) b p2) X.env v = (do
      let ov ← holding [v] (eval (.Name x p1) X.env)
      let iv ← holding [v, ov] (eval b X.env)
      standAt p2
      holding [v, ov, iv] (setItem ov iv v)
      release [v, ov, iv] []) := by intro _; rfl)
    (hs : swapsWithSole [.Subscript (.Name x p1) b p2] e pos.line X.env = pure false := by rfl) (hw : swappedStores [.Subscript (.Name x p1) b p2] e X.env = pure none := by rfl)
    (h1 : (assignEach [.Subscript (.Name x p1) b p2] X.env).map (·.2) = [assign (.Subscript (.Name x p1) b p2) X.env] := by rfl) : PS X (.Assign [.Subscript (.Name x p1) b p2] e pos) (tS (X.kg Tb) wh (sSetIx i f ob)) :=
  PSi (ps_asg he (pg_sub (pe_var hN hv hd hcd) hb set_list ha) hs hw h1) fun E σ H ⟨B, F, env, r, S, ef, k⟩ => by
    obtain ⟨⟨d, e1⟩, q1, ef⟩ := bd ef
    obtain ⟨l0, q2, ef⟩ := bd ef
    obtain ⟨⟨u, e2⟩, q3, ef⟩ := bd ef
    obtain ⟨y, q4, ef⟩ := bd ef
    obtain ⟨e3, q5, ef⟩ := bd ef
    cases ef
    obtain ⟨d0, d1, z, ow, hg, hx, rfl⟩ := chgAt_inv q5
    refine ⟨B, F, env, d, e1, S, q1, fun v F1 H1 S1 s1 hv1 => ?_⟩
    obtain ⟨p, h1, h2, ⟨vs, h3, h4⟩, _⟩ := S1.own i _ (ownL_inv q2)
    refine ⟨_, h1, B, F1, e1, u, e2, S1, q3, fun w F2 H2 S2 s2 hw2 => ?_⟩
    have hy := hw2.bv S2 q4
    unfold sSetIx.gSetL at hg
    split at hg
    · obtain ⟨j, q6, hg⟩ := bd hg
      cases hg
      obtain ⟨p', g1, g2, ⟨vs', g3, g4⟩, _⟩ := S2.own i _ ow
      rw [h1] at g1; cases g1
      exact ⟨p, vs', _, j, rfl, hy.int_inv, g3, by rw [g4.length]; exact q6, k _ F2 _ (S2.chg ow h1 hx ⟨_, upd_same, g4.set (hv1.mono s2) j⟩) (s1.trans s2)⟩
    · cases hg
end
end DL

/-! DLi: calls of the text's own defs, zip, enumerate, more operators. -/
namespace DL
open PySem L2

/-- a def of the text, as callers want it -/
structure Got (P : Program) (w : World) (K : Fr) (mg : Str → Option Value) (base : Heap) (k : Nat) (x : Str) (ps : List Str) (sp : Sp) : Prop where
  ex : ∃ (f : Addr) (fd : FuncData), FnOk P w K mg base CX0 k f fd ps sp ∧ mg x = some (.ref f) ∧ PySem.W.keepIn K (.ref f) = true ∧ Binds K fd ps []
section
variable {X : Cx} {Tb : TbT} {x : Str} {p pos : Pos} {e : Expr} {es : List Expr} {ps : List Str} {k j : Nat} {fl : List Bool} {g : List D → Option (D × List D)} {os : List Opd}
theorem de_callG (G : Got X.prog X.w X.K X.mg X.base k x ps (spD (X.kg Tb) fl .fz g)) (hr : Room j X.A) (hg : Gl X x) (ha : PA X (e :: es) (tAr (X.kg Tb) os)) (hj : k ≤ j := by decide) (hdb : (x == ("__debug__" : Str)) = false := by decide) (he : starEach (e :: es) X.env = (false, eval e X.env) :: starEach es X.env := by rfl) (hpl : (backTo pos (starEach es X.env)).any (·.1) = false := by rfl) :
    PE X (.Call (.Name x p) (e :: es) [] pos) (tD (X.kg Tb) (eCall fl g os)) := by
  obtain ⟨f, fd, F, m, kp, b⟩ := G.ex
  exact de_call F (hr.mono hj) hg m kp b ha hdb he hpl
theorem de_callGN (G : Got X.prog X.w X.K X.mg X.base k x ps (spD (X.kg Tb) fl .nw g)) (hr : Room j X.A) (hg : Gl X x) (ha : PA X (e :: es) (tAr (X.kg Tb) os)) (hj : k ≤ j := by decide) (hdb : (x == ("__debug__" : Str)) = false := by decide) (he : starEach (e :: es) X.env = (false, eval e X.env) :: starEach es X.env := by rfl) (hpl : (backTo pos (starEach es X.env)).any (·.1) = false := by rfl) :
    PE X (.Call (.Name x p) (e :: es) [] pos) (tN (X.kg Tb) (eCall fl g os)) := by
  obtain ⟨f, fd, F, m, kp, b⟩ := G.ex
  exact de_callN F (hr.mono hj) hg m kp b ha hdb he hpl
end
theorem ok_lt {K : Fg} : Ok2 K (rI0 fun i j => .bl (decide (i < j))) gLt := ok_cmp
theorem ok_le {K : Fg} : Ok2 K (rI0 fun i j => .bl (decide (i ≤ j))) gLe := ok_cmp
theorem ok_gt {K : Fg} : Ok2 K (rI0 fun i j => .bl (decide (j < i))) gGt := ok_cmp
theorem ok_ge {K : Fg} : Ok2 K (rI0 fun i j => .bl (decide (j ≤ i))) gGe := ok_cmp
/-- {} -/
def eDict0 : Df := fun env => some (.dict [], env)
theorem de_dict0 {X : Cx} {Tb : TbT} {pos : Pos} : PE X (.Dict [] [] pos) (tN (X.kg Tb) eDict0) := PEi pe_dnewK fun σ H Q ⟨B, F, env, d, env', S, ef, k⟩ => by
  cases ef
  exact fun p hp => KN.at_new (K := X.kg Tb) k S hp (.inl ⟨[], upd_same, .nil⟩)

/-! ### zip of two lists, two tuples -/
def pairs : List D → List D → List D
  | a :: as, b :: bs => .tuple [a, b] :: pairs as bs
  | _, _ => []
theorem pairs_get : ∀ {as bs : List D} {i : Nat} {d : D}, (pairs as bs)[i]? = some d → ∃ a b, as[i]? = some a ∧ bs[i]? = some b ∧ d = .tuple [a, b]
  | [], _, _, _, h => by simp [pairs] at h
  | _ :: _, [], _, _, h => by simp [pairs] at h
  | a :: as, b :: bs, 0, d, h => by simp [pairs] at h; exact ⟨a, b, rfl, rfl, h.symm⟩
  | a :: as, b :: bs, i + 1, d, h => pairs_get (as := as) (bs := bs) (i := i) h
theorem pairs_len : ∀ {as bs : List D} {i : Nat}, (pairs as bs).length ≤ i → as.length ≤ i ∨ bs.length ≤ i
  | [], _, _, _ => .inl (Nat.zero_le _)
  | _ :: _, [], _, _ => .inr (Nat.zero_le _)
  | a :: as, b :: bs, 0, h => by simp [pairs] at h
  | a :: as, b :: bs, i + 1, h => by
    rcases pairs_len (as := as) (bs := bs) (i := i) (Nat.le_of_succ_le_succ h) with h | h
    · exact .inl (Nat.succ_le_succ h)
    · exact .inr (Nat.succ_le_succ h)
theorem walks_zipL {K : Fg} {F : Hp} {a b : Addr} {vs ws : List V} {ds es : List D} (ha : F a = some (.lst vs)) (hb : F b = some (.lst ws)) (ta : DtA K F vs ds) (tb : DtA K F ws es) : Walks K (Itz K.fr a b) F (pairs ds es) := fun {B F' H σ env} S s i => by
  have q1 : SqL K.fr H a vs := SqL.of (S.fh.lst (s _ _ ha rfl))
  have q2 : SqL K.fr H b ws := SqL.of (S.fh.lst (s _ _ hb rfl))
  refine ⟨fun d e => ?_, fun hl => ⟨vs, ws, q1, q2, by rw [ta.length, tb.length]; exact pairs_len (Nat.le_of_eq hl)⟩⟩
  obtain ⟨x, y, e1, e2, rfl⟩ := pairs_get e
  obtain ⟨v, h1, h2⟩ := ta.get e1
  obtain ⟨w, h3, h4⟩ := tb.get e2
  refine ⟨⟨vs, ws, v, w, q1, q2, h1, h3⟩, fun z H' y => ?_⟩
  obtain ⟨T, x', y', rfl, nT, rfl, f1, f2⟩ := y
  have g1 := f1 vs q1
  rw [h1] at g1; cases g1
  have g2 := f2 ws q2
  rw [h3] at g2; cases g2
  exact ⟨_, S.new nT, S.subNew nT, .tup upd_same (.cons (h2.mono (s.trans (S.subNew nT))) (.cons (h4.mono (s.trans (S.subNew nT))) .nil))⟩
theorem walks_zipT {K : Fg} {F : Hp} {a b : Addr} {vs ws : List V} {ds es : List D} (ha : F a = some (.tup vs)) (hb : F b = some (.tup ws)) (ta : DtA K F vs ds) (tb : DtA K F ws es) : Walks K (RZ.ItzT K.fr a b) F (pairs ds es) := fun {B F' H σ env} S s i => by
  have q1 : SqT K.fr H a vs := SqT.of (S.fh.tup (s _ _ ha rfl))
  have q2 : SqT K.fr H b ws := SqT.of (S.fh.tup (s _ _ hb rfl))
  refine ⟨fun d e => ?_, fun hl => ⟨vs, ws, q1, q2, by rw [ta.length, tb.length]; exact pairs_len (Nat.le_of_eq hl)⟩⟩
  obtain ⟨x, y, e1, e2, rfl⟩ := pairs_get e
  obtain ⟨v, h1, h2⟩ := ta.get e1
  obtain ⟨w, h3, h4⟩ := tb.get e2
  refine ⟨⟨vs, ws, v, w, q1, q2, h1, h3⟩, fun z H' y => ?_⟩
  obtain ⟨T, x', y', rfl, nT, rfl, f1, f2⟩ := y
  have g1 := f1 vs q1
  rw [h1] at g1; cases g1
  have g2 := f2 ws q2
  rw [h3] at g2; cases g2
  exact ⟨_, S.new nT, S.subNew nT, .tup upd_same (.cons (h2.mono (s.trans (S.subNew nT))) (.cons (h4.mono (s.trans (S.subNew nT))) .nil))⟩
def iZipL (f g : Df) : If := fun env => (f env).bind fun r => (g r.2).bind fun t => match r.1, t.1 with
  | .list ds, .list es => some (pairs ds es, t.2)
  | _, _ => none
def iZipT (f g : Df) : If := fun env => (f env).bind fun r => (g r.2).bind fun t => match r.1, t.1 with
  | .tuple ds, .tuple es => some (pairs ds es, t.2)
  | _, _ => none
section
variable {X : Cx} {Tb : TbT} {e e2 : Expr} {p pos tpos : Pos} {elts : List Expr} {kk : Nat}
theorem zip_args {f g : Df} (h1 : PE X e (tD (X.kg Tb) f)) (h2 : PE X e2 (tD (X.kg Tb) g)) (hs : starEach [e, e2] X.env = (false, eval e X.env) :: starEach [e2] X.env := by rfl) (hs2 : starEach [e2] X.env = [(false, eval e2 X.env)] := by rfl) : PA X [e, e2] (tCons (tD (X.kg Tb) f) (tCons (tD (X.kg Tb) g) tNil)) := pa_cons h1 (pa_cons h2 pa_nil hs2) hs
theorem di_zipL {f g : Df} (hg : Gl X "zip") (hm : X.mg "zip" = none) (h1 : PE X e (tD (X.kg Tb) f)) (h2 : PE X e2 (tD (X.kg Tb) g)) (hs : starEach [e, e2] X.env = (false, eval e X.env) :: starEach [e2] X.env := by rfl) (hs2 : starEach [e2] X.env = [(false, eval e2 X.env)] := by rfl) (hpl : (backTo pos (starEach [e2] X.env)).any (·.1) = false := by rfl) :
    PI X (.Tuple elts kk tpos) (.Call (.Name "zip" p) [e, e2] [] pos) (iD (X.kg Tb) (iZipL f g)) := PIi (RZ.pi_zipA hg hm (zip_args h1 h2 hs hs2) hs hpl) fun σ H R ⟨B, F, env, ds, env', S, ef, k⟩ => by
  obtain ⟨⟨d1, e1⟩, q1, ef⟩ := bd ef
  obtain ⟨⟨d2, e3⟩, q2, ef⟩ := bd ef
  dsimp only at ef
  split at ef
  · cases ef
    refine ⟨B, F, env, _, e1, S, q1, fun v F1 H1 S1 s1 hd1 => ⟨B, F1, e1, _, _, S1, q2, fun w F2 H2 S2 s2 hd2 => ?_⟩⟩
    have hd1 := hd1.mono s2
    cases hd1 with
    | lst a1 t1 =>
      cases hd2 with
      | lst a2 t2 => exact ⟨_, _, _, _, rfl, .inl ⟨SqL.of (S2.fh.lst a1), SqL.of (S2.fh.lst a2), k _ F2 H2 S2 (s1.trans s2) (walks_zipL a1 a2 t1 t2)⟩⟩
  · cases ef
theorem di_zipT {f g : Df} (hg : Gl X "zip") (hm : X.mg "zip" = none) (h1 : PE X e (tD (X.kg Tb) f)) (h2 : PE X e2 (tD (X.kg Tb) g)) (hs : starEach [e, e2] X.env = (false, eval e X.env) :: starEach [e2] X.env := by rfl) (hs2 : starEach [e2] X.env = [(false, eval e2 X.env)] := by rfl) (hpl : (backTo pos (starEach [e2] X.env)).any (·.1) = false := by rfl) :
    PI X (.Tuple elts kk tpos) (.Call (.Name "zip" p) [e, e2] [] pos) (iD (X.kg Tb) (iZipT f g)) := PIi (RZ.pi_zipA hg hm (zip_args h1 h2 hs hs2) hs hpl) fun σ H R ⟨B, F, env, ds, env', S, ef, k⟩ => by
  obtain ⟨⟨d1, e1⟩, q1, ef⟩ := bd ef
  obtain ⟨⟨d2, e3⟩, q2, ef⟩ := bd ef
  dsimp only at ef
  split at ef
  · cases ef
    refine ⟨B, F, env, _, e1, S, q1, fun v F1 H1 S1 s1 hd1 => ⟨B, F1, e1, _, _, S1, q2, fun w F2 H2 S2 s2 hd2 => ?_⟩⟩
    have hd1 := hd1.mono s2
    cases hd1 with
    | tup a1 t1 =>
      cases hd2 with
      | tup a2 t2 => exact ⟨_, _, _, _, rfl, .inr ⟨SqT.of (S2.fh.tup a1), SqT.of (S2.fh.tup a2), k _ F2 H2 S2 (s1.trans s2) (walks_zipT a1 a2 t1 t2)⟩⟩
  · cases ef
end
end DL

/-! DLj: tuple * int, repr. -/
namespace DL
open PySem L2

abbrev tupO (items : Array Value) (n : Nat) (dd : Option Addr) (sl : Array (Option Value)) : Obj := { cls := .type "tuple", dict := dd, data := .seq items n, slots := sl }
theorem tmul_same (l : Addr) (items : Array Value) (n : Nat) (dd : Option Addr) (sl : Array (Option Value)) (x : Int) (u : Tok) (c0 : (decide (x < -(2 ^ 63)) || decide (x ≥ 2 ^ 63)) = false) (c1 : (items.isEmpty || x == 1) = true) :
    Meets (Builtin.«tuple.__mul__» ⟨[.ref l, .int x u], []⟩) (fun _ R s => s.heap.get? l = some (tupO items n dd sl) ∧ R (.ok (.ret (Value.ref l))) s) :=
  .of_wp fun prog w A R s h => by
    obtain ⟨hp, g, d, tk, os⟩ := s
    obtain ⟨hl, h⟩ := h
    have f1 := AutoSeq1.idx_int
    wp_walk using AutoSeq1.wpAny_loadPart' hl
    refine wpAny_ite_false (decide_eq_false (by rw [c0]; exact Bool.false_ne_true)) ?_
    wp_walk using AutoSeq1.wpAny_loadPart' hl
    exact ⟨_, rfl, h⟩
theorem tmul_none (l : Addr) (items : Array Value) (n : Nat) (dd : Option Addr) (sl : Array (Option Value)) (x : Int) (u : Tok) (c0 : (decide (x < -(2 ^ 63)) || decide (x ≥ 2 ^ 63)) = false) (c1 : (items.isEmpty || x == 1) = false) (c2 : (decide (x ≤ 0) || items.isEmpty) = true) :
    Meets (Builtin.«tuple.__mul__» ⟨[.ref l, .int x u], []⟩) (fun _ R s => s.heap.get? l = some (tupO items n dd sl) ∧ R (.ok (.ret (Value.ref s.heap.objs.size))) { s with heap := s.heap.push { cls := Value.type "tuple", data := Data.seq #[] } }) :=
  .of_wp fun prog w A R s h => by
    obtain ⟨hp, g, d, tk, os⟩ := s
    obtain ⟨hl, h⟩ := h
    have f1 := AutoSeq1.idx_int
    wp_walk using AutoSeq1.wpAny_loadPart' hl
    refine wpAny_ite_false (decide_eq_false (by rw [c0]; exact Bool.false_ne_true)) ?_
    wp_walk using AutoSeq1.wpAny_loadPart' hl
    exact ⟨_, rfl, h⟩
/-- t * k: t itself, or nothing -/
def rRepS (K : Fr) : R2 := fun x y H Q => ∃ l k xs, x = .ref l ∧ y = .int k ∧ SqT K H l xs ∧ -(2 ^ 63) ≤ k ∧ k < 2 ^ 63 ∧ ((xs = [] ∨ k = 1) ∧ Q (.ref l) H ∨ (xs ≠ [] ∧ k ≤ 0) ∧ ∀ p, H p = none → Q (.ref p) (upd H p (.tup [])))
theorem op_repS {X : Cx} : OpR X (binaryOp .Mult) (rRepS X.K) := by
  intro pins s σ H x y v u Q I rx ry h
  obtain ⟨l, k, xs, rfl, rfl, hT, h1, h2, h⟩ := h
  cases rx
  obtain ⟨t, rfl⟩ := ry
  obtain ⟨its, r, ⟨⟨cls, dd, data, sl⟩, ho, hc, n, hd⟩, hs⟩ := I.tuple hT
  simp only at hc hd
  subst hc hd
  have hle : its.length = xs.length := r.length.symm
  have c0 : (decide (k < -(2 ^ 63)) || decide (k ≥ 2 ^ 63)) = false := by
    rw [decide_eq_false (by omega), decide_eq_false (by omega)] <;> rfl
  have emp : its.toArray.isEmpty = xs.isEmpty := by
    cases r <;> rfl
  rcases h with ⟨hc, q⟩ | ⟨⟨hn, hk⟩, q⟩
  · have c1 : (its.toArray.isEmpty || k == 1) = true := by
      rw [emp]
      rcases hc with rfl | rfl
      · rfl
      · simp
    refine wpAny_binaryOp_repeat_ref (T := "tuple") (U := "int") (by decide) ⟨_, ho, rfl⟩ (fun s' => typeIs_int s' k t) noFill_tuple_mul F.fills_int_mul F.slot_int_rmul repeat_tuple F.slot_int_index.lookup
      (call_meets F.slot_int_rmul (typeIs_int s k t) F.entry_int_rmul (F.args_int_rmul_2 _ _) (int_rmul_tuple k t l its.toArray n dd sl)
        ⟨ho, rfl, ⟨_, ho, rfl⟩, call_meets F.slot_tuple_mul ⟨_, ho, rfl⟩ F.entry_tuple_mul (F.args_tuple_mul_2 _ _) (tmul_same l its.toArray n dd sl k t c0 c1) ⟨ho, ?_⟩⟩)
    exact ⟨.ref l, H, I, rfl, q⟩
  · have c1 : (its.toArray.isEmpty || k == 1) = false := by
      rw [emp]
      cases xs with
      | nil => exact absurd rfl hn
      | cons _ _ => exact beq_eq_false_iff_ne.mpr (by omega)
    have c2 : (decide (k ≤ 0) || its.toArray.isEmpty) = true := by
      rw [decide_eq_true hk]
      rfl
    refine wpAny_binaryOp_repeat_ref (T := "tuple") (U := "int") (by decide) ⟨_, ho, rfl⟩ (fun s' => typeIs_int s' k t) noFill_tuple_mul F.fills_int_mul F.slot_int_rmul repeat_tuple F.slot_int_index.lookup
      (call_meets F.slot_int_rmul (typeIs_int s k t) F.entry_int_rmul (F.args_int_rmul_2 _ _) (int_rmul_tuple k t l its.toArray n dd sl)
        ⟨ho, rfl, ⟨_, ho, rfl⟩, call_meets F.slot_tuple_mul ⟨_, ho, rfl⟩ F.entry_tuple_mul (F.args_tuple_mul_2 _ _) (tmul_none l its.toArray n dd sl k t c0 c1 c2) ⟨ho, ?_⟩⟩)
    refine ⟨.ref s.heap.objs.size, _, I.laid (t' := s.toks) (o := .tup []) (fun b ob z => Heap.get?_push_of_some _ z) (Nat.le_refl _) ?_, rfl, q _ (I.hok.fresh (Nat.le_refl _))⟩
    exact ⟨Nat.zero_le _, [], .nil, PyProof.Rows.IsTup.new _ _⟩
def gMuls : D → D → Option D
  | .int a, .int b => gMul (.int a) (.int b)
  | .tuple ds, .int k => if -(2 ^ 63) ≤ k ∧ k < 2 ^ 63 then (if ds.isEmpty = true ∨ k = 1 then some (.tuple ds) else if k ≤ 0 then some (.tuple []) else none) else none
  | .list ds, .int k => if 0 ≤ k ∧ k ≤ 1000 ∧ ds.length ≤ 1000 then some (.list (List.replicate k.toNat ds).flatten) else none
  | _, _ => none
def rMulI : R2 := rI CMul fun i j => .int (i * j)
def rMuls (K : Fr) : R2 := fun x y H Q => rMulI x y H Q ∨ rRepS K x y H Q ∨ rRep x y H Q
theorem op_muls {X : Cx} : OpR X (binaryOp .Mult) (rMuls X.K) := OpR.or op_mul (OpR.or op_repS op_rep)
theorem DtA.rep {K : Fg} {F : Hp} {vs : List V} {ds : List D} (t : DtA K F vs ds) : ∀ n : Nat, DtA K F (List.replicate n vs).flatten (List.replicate n ds).flatten
  | 0 => .nil
  | n + 1 => by
    rw [List.replicate_succ, List.replicate_succ, List.flatten_cons, List.flatten_cons]
    exact t.append (t.rep n)
theorem ok_muls {K : Fg} : Ok2 K (rMuls K.fr) gMuls := fun {B F H σ env x y a b d Q} S ha hb e k => by
  unfold gMuls at e
  split at e
  · exact .inl (ok_mul S ha hb e k)
  · rename_i ds n
    by_cases hc : -(2 ^ 63) ≤ n ∧ n < 2 ^ 63
    · rw [if_pos hc] at e
      obtain ⟨p, vs, rfl, f, hp, t⟩ := ha.tup S.fh
      refine .inr (.inl ⟨p, n, vs, rfl, hb.int_inv, SqT.of hp, hc.1, hc.2, ?_⟩)
      have he : ds.isEmpty = vs.isEmpty := by cases t <;> rfl
      by_cases h1 : ds.isEmpty = true ∨ n = 1
      · rw [if_pos h1] at e
        cases e
        refine .inl ⟨?_, k _ F H S (Sub.refl _) (.tup f t)⟩
        rcases h1 with h1 | h1
        · rw [he] at h1; exact .inl (List.isEmpty_iff.mp h1)
        · exact .inr h1
      · rw [if_neg h1] at e
        by_cases h2 : n ≤ 0
        · rw [if_pos h2] at e
          cases e
          refine .inr ⟨⟨fun z => h1 (.inl (by rw [he, z]; rfl)), h2⟩, fun r hr => k _ _ _ (S.new hr) (S.subNew hr) (.tup upd_same .nil)⟩
        · rw [if_neg h2] at e; cases e
    · rw [if_neg hc] at e; cases e
  · rename_i ds n
    by_cases hc : 0 ≤ n ∧ n ≤ 1000 ∧ ds.length ≤ 1000
    · rw [if_pos hc] at e
      cases e
      obtain ⟨p, vs, rfl, hp, t⟩ := ha.lst S.fh
      refine .inr (.inr ⟨p, n, vs, rfl, hb.int_inv, hp, by omega, by omega, ?_, fun r hr => k _ _ _ (S.new hr) (S.subNew hr) (.lst upd_same ((t.rep _).mono (S.subNew hr)))⟩)
      have h1 : vs.length * n.toNat ≤ 1000 * 1000 := Nat.mul_le_mul (by rw [t.length]; exact hc.2.2) (by omega)
      exact Nat.le_trans h1 (by decide)
    · rw [if_neg hc] at e; cases e
  · cases e

/-! ### repr -/
mutual
/-- no script in it, no dict with keys that are tuples -/
def noScr : D → Bool
  | .list ds => noScrs ds
  | .tuple ds => noScrs ds
  | .dict es => noScrK es
  | _ => true
def noScrs : List D → Bool
  | [] => true
  | d :: ds => noScr d && noScrs ds
def noScrK : List (D × D) → Bool
  | [] => true
  | (.int _, d) :: ds => noScr d && noScrK ds
  | (.str _, d) :: ds => noScr d && noScrK ds
  | _ :: _ => false
end
mutual
def noLst : D → Bool
  | .list _ => false
  | .tuple ds => noLsts ds
  | .dict es => noLstK es
  | _ => true
def noLsts : List D → Bool
  | [] => true
  | d :: ds => noLst d && noLsts ds
def noLstK : List (D × D) → Bool
  | [] => true
  | e :: ds => noLst e.2 && noLstK ds
end
section
variable {X : Cx} {Tb : TbT} {pins : List (Addr × Obj)} {σ : L2.St} {F H : Hp} {s : Shared}
theorem key_reads {h : Heap} {k : Key} {u : Value} (e : keyIs k u = true) : Reads h u (kD k) [] := by
  rcases keyIs_shape e with ⟨i, t, rfl, rfl⟩ | ⟨x, t, rfl, rfl⟩
  · exact .int i t
  · exact .str x t
/-- what is told of the addresses -/
def NoSys (b : Bool) (as : List Addr) : Prop := b = true → sysModules ∉ as
mutual
theorem Dt.reads (I : Inv X pins σ H s) (l : Lk F H) : ∀ {v : V} {d : D} {u : Value}, Dt (X.kg Tb) F v d → RelV v u → noScr d = true → ∃ as, Reads s.heap u d as ∧ NoSys (noLst d) as
  | _, _, _, .non, r, _ => by cases r; exact ⟨[], .none, fun _ z => nomatch z⟩
  | _, _, _, .bl b, r, _ => by cases r; exact ⟨[], .bool b, fun _ z => nomatch z⟩
  | _, _, _, .int i, r, _ => by obtain ⟨t, rfl⟩ := r; exact ⟨[], .int i t, fun _ z => nomatch z⟩
  | _, _, _, .str i, r, _ => by obtain ⟨t, rfl⟩ := r; exact ⟨[], .str i t, fun _ z => nomatch z⟩
  | _, _, _, .lst h t, r, n => by
    cases r
    obtain ⟨_, its, m, rv, e⟩ := I.hok _ _ (l.lst h)
    obtain ⟨as, hr, _⟩ := t.reads I l rv (by simpa [noScr] using n)
    exact ⟨_, .list e rfl rfl (by simpa using hr), fun z => by simp [noLst] at z⟩
  | _, _, _, .tup h t, r, n => by
    cases r
    obtain ⟨_, its, rv, o, e, ec, m, ed⟩ := I.hok _ _ (l.tup h)
    obtain ⟨as, hr, hn⟩ := t.reads I l rv (by simpa [noScr] using n)
    exact ⟨_, .tuple e ec ed (by simpa using hr), fun z => hn (by simpa [noLst] using z)⟩
  | _, _, _, .scr h, r, n => by simp [noScr, noScrK] at n
  | _, _, _, .dk h t, r, n => by
    cases r
    obtain ⟨_, hs, vs, kv, o, es, ep, e, ec, ed, _, hp, _⟩ := dk_rd I.hok (l.rd rfl (.inl h))
    obtain ⟨as, bs, h1, h2, h3⟩ := t.reads I l kv hp (by simpa [noScr] using n)
    refine ⟨_, .dict e ec.1 ed h1 h2, fun z hm => ?_⟩
    rcases List.mem_cons.mp hm with q | q
    · rw [← q] at hs; simp at hs
    · exact h3 (by simpa [noLst] using z) q
  | _, _, _, .dt h t, r, n => by simp [noScr, noScrK] at n
theorem DtA.reads (I : Inv X pins σ H s) (l : Lk F H) : ∀ {vs : List V} {ds : List D} {us : List Value}, DtA (X.kg Tb) F vs ds → Vals vs us → noScrs ds = true → ∃ as, ReadsAll s.heap us ds as ∧ NoSys (noLsts ds) as
  | _, _, _, .nil, .nil, _ => ⟨[], .nil, fun _ z => nomatch z⟩
  | _, _, _, .cons h t, .cons r rr, n => by
    simp only [noScrs, Bool.and_eq_true] at n
    obtain ⟨as, h1, h2⟩ := h.reads I l r n.1
    obtain ⟨bs, h3, h4⟩ := t.reads I l rr n.2
    refine ⟨_, .cons h1 h3, fun z hm => ?_⟩
    simp only [noLsts, Bool.and_eq_true] at z
    rcases List.mem_append.mp hm with q | q
    · exact h2 z.1 q
    · exact h4 z.2 q
theorem DtK.reads (I : Inv X pins σ H s) (l : Lk F H) : ∀ {kvs : List (Key × V)} {es : List (D × D)} {vs : List (Key × Value)} {en : List DictEntry}, DtK (X.kg Tb) F kvs es → KV kvs vs → Pairs (mixKind X.prog X.w) en vs → noScrK es = true →
    ∃ as bs, ReadsAll s.heap (en.map (·.key)) (es.map (·.1)) as ∧ ReadsAll s.heap (en.map (·.val)) (es.map (·.2)) bs ∧ NoSys (noLstK es) (as ++ bs)
  | _, _, _, _, .nil, .nil, .nil, _ => ⟨[], [], .nil, .nil, fun _ z => nomatch z⟩
  | (k, v) :: kvs, _, _, _, .cons (d := d) (ds := ds) h t, .cons r rr, .cons p1 p2 pp, n => by
    have n' : noScr d = true ∧ noScrK ds = true := by
      cases k <;> simpa [kD, noScrK] using n
    obtain ⟨e1, e2⟩ := r
    obtain ⟨as, h1, h2⟩ := h.reads I l e2 n'.1
    obtain ⟨cs, bs, h3, h4, h5⟩ := t.reads I l rr pp n'.2
    refine ⟨[] ++ cs, as ++ bs, .cons ?_ h3, .cons ?_ h4, fun z hm => ?_⟩
    · have e1 : k = _ := e1
      rw [e1]
      exact key_reads p1
    · dsimp only
      rw [p2]
      exact h1
    · simp only [noLstK, Bool.and_eq_true] at z
      rw [List.nil_append] at hm
      rcases List.mem_append.mp hm with q | q
      · exact h5 z.2 (List.mem_append_left _ q)
      · rcases List.mem_append.mp q with q | q
        · exact h2 z.1 q
        · exact h5 z.2 (List.mem_append_right _ q)
end
end
end DL

/-! DLk: repr, the law itself, enumerate, [::-1]. -/
namespace DL
open PySem L2

/-! ### repr -/
def reprOk (d : D) : Bool := noScr d && (d.showable && ((!d.hasDict || noLst d) && (decide (d.depth ≤ 60) && decide (d.shown.length ≤ 16000000))))
def gRepr : D → Option D := fun d => if reprOk d = true then some (.str d.shown) else none
def rRepr (K : Fg) : List V → Hp → VK → Prop := fun xs H Q => ∃ v d F, xs = [v] ∧ Lk F H ∧ Dt K F v d ∧ reprOk d = true ∧ Q (.str d.shown) H
section
variable {X : Cx} {Tb : TbT} {e : Expr} {p pos : Pos} {k : Nat}
theorem call_reprD (hg : X.A.guards = some []) (hu : X.A.units + 64 < cLine) : CallR X (.builtin "repr") (rRepr (X.kg Tb)) := by
  intro pins s σ H xs us Q I r h
  obtain ⟨v, d, F, rfl, l, hd, ok, q⟩ := h
  obtain ⟨u, rfl, ru⟩ := vals1 r
  simp only [reprOk, Bool.and_eq_true, decide_eq_true_eq, Bool.or_eq_true] at ok
  obtain ⟨o1, o2, o3, o4, o5⟩ := ok
  have sz : d.shown.length ≤ sizeLine := Nat.le_trans o5 (by decide)
  have go : ∀ {a : Addr}, v = .ref a → wpAny (model X.prog X.w) X.A (call (.builtin "repr") [u]) (EP X pins σ Q) X.xe s := fun {a} ev => by
    subst ev
    obtain ⟨as, hr, hs⟩ := hd.reads I l ru o1
    cases ru
    refine repr_of_reads' hr o2 (fun hb => ?_) hg (by omega) (fun b o z => z) (fun h' t tk hk => ?_) sz
    · rcases o3 with o3 | o3
      · rw [hb] at o3; cases o3
      · exact hs o3
    · exact ⟨.str d.shown, H, I.kept hk, ⟨_, rfl⟩, q⟩
  cases hd with
  | non => cases ru; exact PySem.P.repr_of_none ⟨.str _, H, I.tok _, ⟨_, rfl⟩, by simpa [PyData.shown] using q⟩
  | bl b => cases ru; exact PySem.P.repr_of_bool ⟨.str _, H, I.tok _, ⟨_, rfl⟩, by simpa [PyData.shown] using q⟩
  | int i => obtain ⟨t, rfl⟩ := ru; exact PySem.P.repr_of_int (by simpa [PyData.showable] using o2) ⟨.str _, H, I.tok _, ⟨_, rfl⟩, by simpa [PyData.shown] using q⟩
  | str x => obtain ⟨t, rfl⟩ := ru; exact PySem.P.repr_of_str ⟨.str _, H, I.tok _, ⟨_, rfl⟩, by simpa [PyData.shown] using q⟩ (by simpa [PyData.shown] using sz)
  | lst _ _ => exact go rfl
  | tup _ _ => exact go rfl
  | scr _ => exact go rfl
  | dk _ _ => exact go rfl
  | dt _ _ => exact go rfl
  | exc _ _ => exact go rfl
  | exf _ _ _ _ => exact go rfl
  | fn _ => exact go rfl
theorem Lk.own {F H : Hp} {q : Addr} {o : HO} (l : Lk F H) (h : H q = some o) : Lk (upd F q o) H := fun a u e => by
  by_cases z : a = q
  · subst z; rw [upd_same] at e; cases e; exact .inl h
  · rw [upd_ne z] at e; exact l a u e
theorem ok_repr {K : Fg} : Ok1 K (fun x H Q => rRepr K [x] H Q) gRepr := fun {B F H σ env x a d Q} S ha e k => by
  unfold gRepr at e
  split at e
  · rename_i h
    cases e
    rcases ha with ha | ⟨q, rfl, n, ho⟩
    · exact ⟨x, a, F, rfl, S.fh, ha, h, k _ F H S (Sub.refl _) (.str _)⟩
    · obtain ⟨o, hq, _⟩ := ho.some
      exact ⟨_, a, _, rfl, S.fh.own hq, ho.froze hq n, h, k _ F H S (Sub.refl _) (.str _)⟩
  · cases e
theorem de_repr {o : Opd} (gd : X.A.guards = some []) (hr : Room k X.A) (hg : Gl X "repr") (hm : X.mg "repr" = none) (ha : PE X e (tO (X.kg Tb) o)) (he : starEach [e] X.env = [(false, eval e X.env)] := by rfl) (hpl : (backTo pos (starEach [] X.env)).any (·.1) = false := by rfl) :
    PE X (.Call (.Name "repr" p) [e] [] pos) (tD (X.kg Tb) (op1 gRepr o)) :=
  PEi (pe_callB (call_reprD gd hr.units) hg hm (by decide +kernel) (pa_cons ha pa_nil he) (by decide) (by decide) he hpl) fun σ H Q h => op1_le ok_repr σ H Q h
end

/-! ### a def that is called where nothing is being shown -/
structure FnOkG (P : Program) (w : World) (K : Fr) (mg : Str → Option Value) (base : Heap) (k : Nat) (f : Addr) (fd : FuncData) (ps : List Str) (sp : Sp) : Prop where
  len : ∀ vs H Q E, sp vs H Q E → vs.length = ps.length
  run : ∀ (A : Around) (outer : List Env) (s : Shared) (H : Hp) (args : Args) (us : List Value) (vs : List V) (Q : VK) (E : XK), A.guards = some [] → Room k A → Env0 P w K mg base A outer s H → BindsTo s fd args (ps.zip us) → Vals vs us → sp vs H Q E →
    codeAny (model P w) A (.call (.ref f) args) (CR CX0 outer P w H s Q E) s
/-- a plain def of the text -/
abbrev FnP (K : Fr) (x : Str) (st : Stmt) (f : Addr) (fd : FuncData) : Prop := FunD K x x (defArgs st) (defBody st) (defScope st) [] [] f fd
theorem okP {P : Program} {w : World} {K : Fr} {mg : Str → Option Value} {base : Heap} {x : Str} {st : Stmt} {f : Addr} {fd : FuncData} {N ps : List Str} {k : Nat} {sp : Sp} (F : FnP K x st f fd) (S : FnScope N ps (defScope st)) (len : ∀ vs H Q E, sp vs H Q E → vs.length = ps.length)
    (body : ∀ (cdv : Value) (A : Around) (outer : List Env) (s : Shared) (H : Hp) (vs : List V) (Q : VK) (E : XK), Room k (A.deeper (PyProof.Rows.envOfC x (defScope st) s.heap.objs.size f cdv)) → sp vs H Q E →
      ∃ t, PSs (cxOf CX0 P w K mg base N x (defScope st) f cdv A outer s H E).nox (defBody st) t ∧ t { nx := fun _ H' => Q .non H', rt := Q } (L2.start N vs) H) : FnOk P w K mg base CX0 (k + 1) f fd ps sp :=
  F.ok S len fun cdv A outer s H vs Q E hr hsp => by
    obtain ⟨t, h, q⟩ := body cdv A outer s H vs Q E hr hsp
    exact ⟨t, h.nox, q⟩
theorem okG {P : Program} {w : World} {K : Fr} {mg : Str → Option Value} {base : Heap} {qual : Str} {st : Stmt} {f : Addr} {fd : FuncData} {N ps : List Str} {k : Nat} {sp : Sp} (F : FnP K qual st f fd) (S : FnScope N ps (defScope st)) (len : ∀ vs H Q E, sp vs H Q E → vs.length = ps.length)
    (body : ∀ (cdv : Value) (A : Around) (outer : List Env) (s : Shared) (H : Hp) (vs : List V) (Q : VK) (E : XK), (A.deeper (PyProof.Rows.envOfC qual (defScope st) s.heap.objs.size f cdv)).guards = some [] → Room k (A.deeper (PyProof.Rows.envOfC qual (defScope st) s.heap.objs.size f cdv)) → sp vs H Q E →
      ∃ t, PSs (cxOf CX0 P w K mg base N qual (defScope st) f cdv A outer s H E).nox (defBody st) t ∧ t { nx := fun _ H' => Q .non H', rt := Q } (L2.start N vs) H) : FnOkG P w K mg base (k + 1) f fd ps sp := by
  obtain ⟨oc, od, dV, kV, doc, pm, an, cdv, ct, osl, rfl, lk, hcd, _, _⟩ := F.ex
  refine ⟨len, fun A outer s H args us vs Q E gd hr e0 hb rv hsp => ?_⟩
  have inn : K.In s.heap := e0.mod.kin.keeps fun b o z => (e0.bs b o z).1
  have lim : s.heap.NoLimit := e0.mod.nolimit.keeps fun b o z => (e0.bs b o z).1
  refine codeAny_call_function hr.depth (inn _ _ lk) rfl S.co S.gen rfl (PySem.W.codeRec_of inn hcd) (hb _ _ _ _ ?_)
  refine wpAny_newFunctionEnv_cells S.kind (fun y hy => ?_) fun env he s1 x1 => ?_
  · obtain ⟨n, v⟩ := y
    rcases S.par n (List.of_mem_zip hy).1 with q | q
    · exact .inl q
    · exact .inr ⟨q, PySem.W.cellsFrom_some _ _ _ (.inl q)⟩
  subst he
  refine ⟨lim.keeps x1.toInCall.keep, codeAny_func ?_⟩
  obtain ⟨t, ht, hq⟩ := body cdv A outer s H vs Q E gd (hr.deeper _) hsp
  have I := inv_start (CX := CX0) (E := E) S hr.hd e0 (len _ _ _ _ hsp) rv x1
  refine wpAny_mono (ht.nox.run [] s1 (L2.start N vs) H _ I hq) (fun fl s' hs => ?_) fun _ _ z => z
  have fin : ∀ {σ' : L2.St} {H' : Hp} {v : V} {u : Value}, L2.Inv (cxOf CX0 P w K mg base N qual (defScope st) f cdv A outer s H E) [] σ' H' s' → RelV v u → Q v H' → CE outer P w H s Q u s' := fun {σ' H' v u} J r q => ⟨v, H', J.os, J.bare, J.base, J.hok, r, q⟩
  cases fl with
  | ret u => obtain ⟨v, σ', H', J, r, q⟩ := hs; exact fin J r q
  | next => obtain ⟨σ', H', J, q⟩ := hs; exact fin (v := V.non) (u := Value.none) J rfl q
  | brk => obtain ⟨_, _, _, q⟩ := hs; exact q.elim
  | cont => obtain ⟨_, _, _, q⟩ := hs; exact q.elim
end DL

/-! DLl: enumerate, [::-1], the end. -/
namespace DL
open PySem L2

/-! ### enumerate -/
def numbered : Nat → List D → List D
  | _, [] => []
  | n, d :: ds => .tuple [.int (n : Nat), d] :: numbered (n + 1) ds
theorem numbered_get : ∀ {n : Nat} {ds : List D} {i : Nat} {d : D}, (numbered n ds)[i]? = some d → ∃ x, ds[i]? = some x ∧ d = .tuple [.int ((n + i : Nat) : Int), x]
  | n, [], i, d, h => by simp [numbered] at h
  | n, x :: ds, 0, d, h => by simp [numbered] at h; exact ⟨x, rfl, h.symm⟩
  | n, x :: ds, i + 1, d, h => by
    obtain ⟨y, h1, h2⟩ := numbered_get (n := n + 1) (ds := ds) (i := i) (d := d) h
    exact ⟨y, h1, by rw [h2, Nat.add_right_comm]; rfl⟩
theorem numbered_len : ∀ (n : Nat) (ds : List D), (numbered n ds).length = ds.length
  | _, [] => rfl
  | n, _ :: ds => congrArg Nat.succ (numbered_len (n + 1) ds)
theorem walks_enum {K : Fg} {F : Hp} {a : Addr} {vs : List V} {ds : List D} (ha : F a = some (.lst vs)) (ta : DtA K F vs ds) : Walks K (Ite K.fr a) F (numbered 0 ds) := fun {B F' H σ env} S s i => by
  have q1 : SqL K.fr H a vs := SqL.of (S.fh.lst (s _ _ ha rfl))
  refine ⟨fun d e => ?_, fun hl => ⟨vs, q1, by rw [ta.length]; rw [numbered_len] at hl; exact Nat.le_of_eq hl⟩⟩
  obtain ⟨x, e1, rfl⟩ := numbered_get e
  obtain ⟨v, h1, h2⟩ := ta.get e1
  refine ⟨⟨vs, v, q1, h1⟩, fun z H' y => ?_⟩
  obtain ⟨T, x', rfl, nT, rfl, f1⟩ := y
  have g1 := f1 vs q1
  rw [h1] at g1; cases g1
  rw [Nat.zero_add]
  exact ⟨_, S.new nT, S.subNew nT, .tup upd_same (.cons (.int _) (.cons (h2.mono (s.trans (S.subNew nT))) .nil))⟩
/-- over a tuple -/
def IteT (K : Fr) (a : Addr) : It :=
  ⟨fun i H => ∃ (xs : List V) (x : V), SqT K H a xs ∧ xs[i]? = some x, fun i H v H' => ∃ T x, v = .ref T ∧ H T = none ∧ H' = upd H T (.tup [.int (i : Nat), x]) ∧ ∀ xs, SqT K H a xs → xs[i]? = some x, fun i H => ∃ xs : List V, SqT K H a xs ∧ xs.length = i⟩
theorem walks_enumT {K : Fg} {F : Hp} {a : Addr} {vs : List V} {ds : List D} (ha : F a = some (.tup vs)) (ta : DtA K F vs ds) : Walks K (IteT K.fr a) F (numbered 0 ds) := fun {B F' H σ env} S s i => by
  have q1 : SqT K.fr H a vs := SqT.of (S.fh.tup (s _ _ ha rfl))
  refine ⟨fun d e => ?_, fun hl => ⟨vs, q1, by rw [ta.length]; rw [numbered_len] at hl; exact hl⟩⟩
  obtain ⟨x, e1, rfl⟩ := numbered_get e
  obtain ⟨v, h1, h2⟩ := ta.get e1
  refine ⟨⟨vs, v, q1, h1⟩, fun z H' y => ?_⟩
  obtain ⟨T, x', rfl, nT, rfl, f1⟩ := y
  have g1 := f1 vs q1
  rw [h1] at g1; cases g1
  rw [Nat.zero_add]
  exact ⟨_, S.new nT, S.subNew nT, .tup upd_same (.cons (.int _) (.cons (h2.mono (s.trans (S.subNew nT))) .nil))⟩
/-- enumerate(v) begins -/
theorem enum_new {v : Value} {o : Obj} {H : Heap → Prop} (B : Begins v o H) : Meets (Builtin.«enumerate.__new__» ⟨[.type "enumerate", v], []⟩) (fun _ R s => H s.heap ∧ R (.ok (.ret (.ref (s.heap.push o).objs.size))) { s with heap := (s.heap.push o).push { cls := .type "enumerate", data := .fields #[.none, .bool false, .ref s.heap.objs.size, rawInt 0, .none, .none] } }) :=
  .of_wp fun prog w A R s h => by
    obtain ⟨hp, g, d, tk, os⟩ := s
    obtain ⟨h1, h⟩ := h
    have hsub := sub_enumerate
    have q1 : ∀ {A' : Around} {E : Value → Shared → Prop} {Q : Value → Shared → Prop}, Q (.ref hp.objs.size) ⟨hp.push o, g, d, tk, os⟩ → wpAny (model prog w) A' (pyIter v) Q E ⟨hp, g, d, tk, os⟩ := fun q => B.iter prog w _ _ ⟨hp, g, d, tk, os⟩ _ h1 q
    wp_walk using q1
    refine wpAny_stack_any fun st => wpAny_pure ?_
    split
    · rename_i c _ _ _ _ _
      cases (c == Value.type "enumerate") <;> (wp_walk using q1; exact ⟨_, rfl, h⟩)
    · wp_walk using q1
      exact ⟨_, rfl, h⟩
section
variable {P : Program} {w : World} {A : Around} {E : Value → Shared → Prop} {s : Shared}
theorem enum_tup {t : Addr} {items : Array Value} {Q : Value → Shared → Prop} (ht : s.heap.IsTuple t items)
    (h : ∀ h', IsEnum h' (s.heap.objs.size + 1) s.heap.objs.size 0 .none → h'.IsTupleIter s.heap.objs.size t 0 → h'.objs.size = s.heap.objs.size + 2 → (∀ b o, s.heap.get? b = some o → h'.get? b = some o) → Q (.ref (s.heap.objs.size + 1)) { s with heap := h' }) :
    wpAny (model P w) A (call (.type "enumerate") [.ref t]) Q E s := by
  refine callType_new F.called_enumerate (by decide) (F.typeCall_enumerate_1 _) (F.newCall_enumerate_1 _) (fun obj => F.args_object_init_2 obj _) F.entry_enumerate_new (enum_new (begins_tuple t items)) ⟨ht, ?_⟩
  have hz : (s.heap.push { cls := .type "tuple_iterator", data := .fields #[.ref t, .int 0 0] }).objs.size = s.heap.objs.size + 1 := Heap.size_push ..
  show _ ∧ _
  rw [hz]
  have he : IsEnum ((s.heap.push { cls := .type "tuple_iterator", data := .fields #[.ref t, .int 0 0] }).push { cls := .type "enumerate", data := .fields #[.none, .bool false, .ref s.heap.objs.size, rawInt 0, .none, .none] }) (s.heap.objs.size + 1) s.heap.objs.size 0 .none := by
    have z := Heap.get?_push_size (s.heap.push { cls := .type "tuple_iterator", data := .fields #[.ref t, .int 0 0] }) (o := { cls := .type "enumerate", data := .fields #[.none, .bool false, .ref s.heap.objs.size, rawInt 0, .none, .none] }) rfl
    rw [hz] at z
    exact z
  exact ⟨⟨_, he, rfl⟩, h _ he ⟨_, Heap.get?_push_of_some _ (Heap.get?_push_size _ rfl), rfl, rfl⟩ (by rw [Heap.size_push, hz]) fun b o x => Heap.get?_push_of_some _ (Heap.get?_push_of_some _ x)⟩
end
/-- its turns -/
theorem turn_enumT {P : Program} {w : World} {K : Fr} {elts : List Expr} {kk : Nat} {tpos : Pos} (a e it : Addr) (hne : e ≠ it) (hea : e ≠ a) (hia : a ≠ it) :
    Turn P w K (.Tuple elts kk tpos) (IteT K a) [e, it] e (fun i h => (∃ old, IsEnum h e it ((i : Nat) : Int) old) ∧ h.IsTupleIter it a i) where
  mem := by simp
  obj := fun i h st b hb => by
    obtain ⟨⟨old, he⟩, o, ho, hc, hd⟩ := st
    have e' : b = e ∨ b = it := by simpa using hb
    rcases e' with rfl | rfl
    · exact ⟨_, he, fun v q => nomatch q⟩
    · exact ⟨o, ho, fun v q => by rw [hd] at q; cases q⟩
  keep := fun i h h' st k => by
    obtain ⟨⟨old, he⟩, hi⟩ := st
    exact ⟨⟨old, k e (by simp) _ he⟩, hi.at fun o q => k it (by simp) o q⟩
  item := by
    intro X hP hw hK hc i pins s σ H E I hf st hg
    subst hP hw hK
    obtain ⟨⟨old, he⟩, hit⟩ := st
    obtain ⟨xs, x, hq, hx⟩ := hg
    obtain ⟨its, rv, p, hz⟩ := I.tuple hq
    obtain ⟨u, hu, ru⟩ := rv.get hx
    have hel : e < s.heap.objs.size := Heap.lt_size he
    have hil : it < s.heap.objs.size := by
      obtain ⟨_, q, _⟩ := hit
      exact Heap.lt_size q
    have hT0 : s.heap.IsTuple a its.toArray := p
    have hlt : i < its.toArray.size := by
      have := (List.getElem?_eq_some_iff.mp hu).1
      simpa using this
    refine wpAny_pyNext_enum_itemD (Draws.tuple (A := X.A.in1) (I.ok.hd hc) it a hia its.toArray) he ⟨hit, hT0⟩ hlt hne (by simp [hne, hea]) fun y h' tk hy ho hst hT hsz hk => ?_
    have ey : y = u := by
      have q : its[i]? = some y := by simpa using hy
      rw [hu] at q; cases q; rfl
    subst ey
    refine ⟨_, rfl, wpAny_letOwnedTupleGo_enum (s := { s with heap := h', toks := tk + 1 }) ho fun h2 he2 sb => ?_⟩
    have hT2 : h2.get? s.heap.objs.size = some { cls := .type "tuple", data := .seq #[.int i tk, y] } := (sb.2 _ (Nat.ne_of_gt hel)).trans hT
    have new : ObjOk X.prog X.w (upd H s.heap.objs.size (.tup [.int (i : Nat), x])) h2 s.heap.objs.size (.tup [.int (i : Nat), x]) :=
      ⟨by show 2 ≤ sizeLine; decide, [.int i tk, y], .cons ⟨_, rfl⟩ (.cons ru .nil), ⟨_, hT2, rfl, _, rfl⟩⟩
    have I1 : L2.Inv X pins σ (upd H s.heap.objs.size (.tup [.int (i : Nat), x])) { s with heap := h2, toks := tk + 1 } :=
      I.turnedNew (ch := [e, it]) (fun b ob hb q => (sb.2 b (fun z => hb (by simp [z]))).trans (hk b ob (fun z => hb (by simp [z])) (fun z => hb (by simp [z])) q)) hf (Nat.le_refl _) new
    refine ⟨.ref s.heap.objs.size, _, I1, rfl, ⟨_, x, rfl, I.hok.fresh (Nat.le_refl _), rfl, fun ys hy' => by rw [I.tuple_inj hy' hq]; exact hx⟩, ⟨⟨y, ?_⟩, hst.1.at fun o q => (sb.2 it (Ne.symm hne)).trans q⟩, fun b hb => ?_⟩
    · have e1 : ((i + 1 : Nat) : Int) = (i : Int) + 1 := by omega
      rw [e1]
      exact he2
    · have e' : b = e ∨ b = it := by simpa using hb
      have hb' : b < s.heap.objs.size := by rcases e' with rfl | rfl <;> assumption
      rw [upd_ne (Nat.ne_of_lt hb')]
      exact (hf b hb).1
  done := by
    intro X hP hw hK hc i pins s σ H E I hf st hg
    subst hP hw hK
    obtain ⟨⟨old, he⟩, hit⟩ := st
    obtain ⟨xs, hq, hx⟩ := hg
    obtain ⟨its, rv, p, hz⟩ := I.tuple hq
    have hT0 : s.heap.IsTuple a its.toArray := p
    have hn : its.toArray.size = i := by
      have := rv.length
      rw [List.size_toArray]
      omega
    obtain ⟨f0, f1, f2, f3, f4, f5⟩ := hf it (by simp)
    exact wpAny_pyNext_enum_endD (Draws.tuple (A := X.A.in1) (I.ok.hd hc) it a hia its.toArray) he ⟨by rw [hn]; exact hit, hT0⟩ fun h' eb => ⟨rfl, I.turned (t' := s.toks) (fun b o hb q => eb b o hb q) f0 f1 f3 f4 f5⟩
  self := fun A i s Q E st h => by
    obtain ⟨⟨_, he⟩, _⟩ := st
    exact wpAny_pyIter_enum he h
def iEnumT (K : Fr) (ta : TA) : TI := fun σ H R => ta σ H fun vs H1 => ∃ a xs, vs = [.ref a] ∧ SqT K H1 a xs ∧ R (IteT K a) H1
theorem pi_enumT {X : Cx} {e : Expr} {ta : TA} {p pos tpos : Pos} {elts : List Expr} {kk : Nat} (hg : Gl X "enumerate") (hm : X.mg "enumerate" = none) (ha : PA X [e] ta) (hs : starEach [e] X.env = [(false, eval e X.env)] := by rfl) :
    PI X (.Tuple elts kk tpos) (.Call (.Name "enumerate" p) [e] [] pos) (iEnumT X.K ta) := by
  refine ⟨fun pins s σ H R I h => ?_⟩
  refine PyProof.Rows.Call_ (ld_blt I hg hm PyProof.Rows.boot_enumerate (PyProof.Rows.callWith_type1 (thn (ha.run pos pins s σ H _ I h) fun us s1 ⟨vs, H1, I1, r1, q1⟩ => ?_) hs rfl))
  obtain ⟨a, xs, rfl, hq, q⟩ := q1
  obtain ⟨u, rfl, ru⟩ := vals1 r1
  cases ru
  obtain ⟨its, rv, p1, hz⟩ := I1.tuple hq
  have hT0 : s1.heap.IsTuple a its.toArray := p1
  have hal : a < s1.heap.objs.size := by
    obtain ⟨_, z, _⟩ := p1
    exact Heap.lt_size z
  refine enum_tup hT0 fun h' he hit hsz hk => wpAny_pyIter_enum he ?_
  have I2 : L2.Inv X pins σ H1 { s1 with heap := h' } := I1.kept (t' := s1.toks) hk
  refine ⟨s1.heap.objs.size + 1, [s1.heap.objs.size + 1, s1.heap.objs.size], _, _, H1, rfl, I2, turn_enumT a (s1.heap.objs.size + 1) s1.heap.objs.size (Nat.succ_ne_self _) (fun z => ?_) (Nat.ne_of_lt hal), ⟨⟨.none, he⟩, hit⟩, fun b hb => ?_, q⟩
  · exact absurd (z ▸ hal) (Nat.not_lt_of_le (Nat.le_succ _))
  · have e' : b = s1.heap.objs.size + 1 ∨ b = s1.heap.objs.size := by simpa using hb
    have hle : s1.heap.objs.size ≤ b := by
      rcases e' with rfl | rfl
      · exact Nat.le_succ _
      · exact Nat.le_refl _
    exact I1.fpOk hle (I1.hok.fresh hle)
def iEnL (f : Df) : If := fun env => (f env).bind fun r => match r.1 with
  | .list ds => some (numbered 0 ds, r.2)
  | _ => none
def iEnT (f : Df) : If := fun env => (f env).bind fun r => match r.1 with
  | .tuple ds => some (numbered 0 ds, r.2)
  | _ => none
section
variable {X : Cx} {Tb : TbT} {e : Expr} {p pos tpos : Pos} {elts : List Expr} {kk : Nat}
theorem di_enumL {f : Df} (hg : Gl X "enumerate") (hm : X.mg "enumerate" = none) (h : PE X e (tD (X.kg Tb) f)) (hs : starEach [e] X.env = [(false, eval e X.env)] := by rfl) : PI X (.Tuple elts kk tpos) (.Call (.Name "enumerate" p) [e] [] pos) (iD (X.kg Tb) (iEnL f)) :=
  PIi (pi_enum hg hm (pa_cons h pa_nil hs) hs) fun σ H R ⟨B, F, env, ds, env', S, ef, k⟩ => by
    obtain ⟨⟨d, e1⟩, q, ef⟩ := bd ef
    cases d <;> first | (cases ef; done) | skip
    cases ef
    refine ⟨B, F, env, _, _, S, q, fun v F' H' S' s' hd => ?_⟩
    cases hd with
    | lst hq hd => exact ⟨_, _, rfl, SqL.of (S'.fh.lst hq), k _ F' H' S' s' (walks_enum hq hd)⟩
theorem di_enumT {f : Df} (hg : Gl X "enumerate") (hm : X.mg "enumerate" = none) (h : PE X e (tD (X.kg Tb) f)) (hs : starEach [e] X.env = [(false, eval e X.env)] := by rfl) : PI X (.Tuple elts kk tpos) (.Call (.Name "enumerate" p) [e] [] pos) (iD (X.kg Tb) (iEnT f)) :=
  PIi (pi_enumT hg hm (pa_cons h pa_nil hs) hs) fun σ H R ⟨B, F, env, ds, env', S, ef, k⟩ => by
    obtain ⟨⟨d, e1⟩, q, ef⟩ := bd ef
    cases d <;> first | (cases ef; done) | skip
    cases ef
    refine ⟨B, F, env, _, _, S, q, fun v F' H' S' s' hd => ?_⟩
    cases hd with
    | tup hq hd => exact ⟨_, _, rfl, SqT.of (S'.fh.tup hq), k _ F' H' S' s' (walks_enumT hq hd)⟩
end
end DL

/-! DLm: [::-1], the end of a law. -/
namespace DL
open PySem PySem.Spec PyProof.Rows L2

/-! ### x[::-1] -/
theorem rev_adjust (n : Nat) : Builtin.Slice.sliceAdjust none none (-1) (n : Int) = ((n : Int) - 1, -1) := by
  unfold Builtin.Slice.sliceAdjust
  simp
theorem rev_places (n : Nat) : Builtin.Slice.slicePlaces ((n : Int) - 1) (-1) (-1) = n := by
  unfold Builtin.Slice.slicePlaces
  simp
  split <;> omega
theorem rev_pick (xs : Array Value) : ((List.range xs.size).filterMap fun (m : Nat) => xs[(((xs.size : Nat) : Int) - 1 + (m : Int) * (-1)).toNat]?).toArray = xs.toList.reverse.toArray := by
  have e : (fun (m : Nat) => xs[(((xs.size : Nat) : Int) - 1 + (m : Int) * (-1)).toNat]?) = (fun j => xs[j]?) ∘ (fun m => xs.size - 1 - m) := by
    funext m
    show _ = xs[xs.size - 1 - m]?
    have : (((xs.size : Nat) : Int) - 1 + (m : Int) * (-1)).toNat = xs.size - 1 - m := by omega
    rw [this]
  rw [e, ← List.filterMap_map, PySem.W.krv_range, List.filterMap_reverse, PySem.W.krv_all]
section
variable {prog : Program} {w : World} {A : Around} {E : Value → Shared → Prop} {s : Shared}
theorem rev_applied {sl : Addr} {vs : Value} {n : Nat} {Q : Int × Int × Nat → Shared → Prop} (hs : s.heap.IsSliceOf sl .none .none vs) (ps : IsPart vs (some (-1))) (h : Q ((n : Int) - 1, -1, n) s) : wpAny (model prog w) A (Builtin.Slice.sliceApplied (.ref sl) (pure (n : Int))) Q E s := by
  obtain ⟨os, hos, hcs, hds⟩ := id hs
  unfold Builtin.Slice.sliceApplied Builtin.Slice.sliceFields
  refine wpAny_bind (wpAny_bind (wpAny_field hos hds (x := .none) rfl (wpAny_bind (wpAny_field hos hds (x := .none) rfl (wpAny_bind (wpAny_field hos hds (x := vs) rfl (wpAny_pure ?_)))))))
  refine wpAny_bind (HT.slicePart_ ps ?_)
  show wpAny _ _ (if ((-1 : Int) == 0) = true then _ else _) _ _ s
  rw [if_neg (by decide)]
  refine wpAny_bind (HT.slicePart_ .none (wpAny_bind (HT.slicePart_ .none (wpAny_bind (wpAny_pure ?_)))))
  show wpAny _ _ (match Builtin.Slice.sliceAdjust none none (-1) (n : Int) with | (lo, hi) => pure (lo, (-1 : Int), Builtin.Slice.slicePlaces lo hi (-1))) _ _ s
  rw [rev_adjust]
  show wpAny _ _ (pure ((n : Int) - 1, (-1 : Int), Builtin.Slice.slicePlaces ((n : Int) - 1) (-1) (-1))) _ _ s
  rw [rev_places]
  exact wpAny_pure h
theorem rev_tuple {t sl : Addr} {items : Array Value} {vs : Value} {Q : Value → Shared → Prop} (ht : PyProof.Rows.IsTup s.heap t items) (hs : s.heap.IsSliceOf sl .none .none vs) (ps : IsPart vs (some (-1)))
    (h : Q (.ref s.heap.objs.size) { s with heap := s.heap.push { cls := .type "tuple", data := .seq items.toList.reverse.toArray } }) (hsz : items.size ≤ sizeLine) : wpAny (model prog w) A (getItem (.ref t) (.ref sl)) Q E s := by
  have ok : sizeOk (.seq items.toList.reverse.toArray) := by
    show items.toList.reverse.toArray.size ≤ sizeLine
    rw [List.size_toArray, List.length_reverse, Array.length_toList]
    exact hsz
  obtain ⟨os, hos, hcs, hds⟩ := id hs
  have hTs : s.TypeIs (.ref sl) "slice" := ⟨os, hos, hcs⟩
  unfold getItem
  try with_reducible refine wpAny_holding ?_
  first | refine wpAny_bind (wpAny_pure ?_) | skip
  refine wpAny_bind (wpAny_sequenceKey ht.typeIs (by decide) ?_)
  refine wpAny_bind (wpAny_callSpecial?_slot (name := Str.ofString "__getitem__") ht.typeIs PyProof.Rows.slot_tuple_getitem (wpAny_call_entry PyProof.Rows.slot_tuple_getitem ht.typeIs PyProof.Rows.entry_tuple_getitem ?_ (PyProof.Rows.args_tuple_getitem _ _)))
  show wpAny _ _ (Builtin.Tuple.tupleItemsOf (.ref t) >>= _) _ _ s
  refine wpAny_bind (PyProof.Rows.tupleItemsOf_ ht ?_)
  refine wpAny_bind (wpAny_typeOf hTs ?_)
  rw [if_pos (by decide)]
  refine wpAny_bind (rev_applied hs ps ?_)
  have no : ¬ ((((items.size : Nat) : Int) - 1 == 0 && (-1 : Int) == 1 && items.size == items.size) = true) := by simp
  show wpAny _ _ (if (((items.size : Nat) : Int) - 1 == 0 && (-1 : Int) == 1 && items.size == items.size) = true then _ else _) _ _ s
  rw [if_neg no, rev_pick]
  first
    | exact wpAny_bind (m := Builtin.Tuple.tupleExact _) (wpAny_newObj_type (wpAny_pure ⟨_, rfl, wpAny_pure h⟩) ok)
    | exact wpAny_bind (m := Builtin.Tuple.tupleExact _) (wpAny_newObj_type (wpAny_bind (wpAny_pure (wpAny_pure ⟨_, rfl, wpAny_pure h⟩))) ok)
    | exact wpAny_bind (wpAny_bind (m := Builtin.Tuple.tupleExact _) (wpAny_newObj_type (wpAny_pure (wpAny_pure ⟨_, rfl, wpAny_pure h⟩)) ok))
    | exact wpAny_bind (wpAny_bind (m := Builtin.Tuple.tupleExact _) (wpAny_newObj_type (wpAny_pure ⟨_, rfl, wpAny_pure h⟩) ok))
end
def tRevT (K : Fr) (te : TE) : TE := fun σ H Q => te σ H fun x H1 => ∃ a xs, x = .ref a ∧ ((SqL K H1 a xs ∧ ∀ p, H1 p = none → Q (.ref p) (upd H1 p (.lst xs.reverse))) ∨ (SqT K H1 a xs ∧ ∀ p, H1 p = none → Q (.ref p) (upd H1 p (.tup xs.reverse))))
section
variable {X : Cx} {Tb : TbT} {e : Expr} {k : Nat} {p1 p2 p3 pos : Pos}
theorem pe_revT {te : TE} (he : PE X e te) : PE X (.Subscript e (.Slice none none (some (.UnaryOp .USub (.Constant (.int 1) k p1) p2)) p3) pos) (tRevT X.K te) := by
  refine ⟨fun pins s σ H Q I h => ?_⟩
  refine PyProof.Rows.Subscript_ (thn (he.run pins s σ H _ I h) fun v s1 ⟨x, H1, I1, r1, q1⟩ => ?_)
  obtain ⟨a, xs, rfl, q⟩ := q1
  cases r1
  have hst : PO X (some (.UnaryOp .USub (.Constant (.int 1) k p1) p2)) (tPart (tUn (rU fun i => .int (-i)) (tC (.int 1)))) := po_some (pe_un un_neg pe_int)
  refine wpAny_Slice (thn (po_none.run pins s1 σ H1 (fun o G => o = none ∧ G = H1) I1 ⟨rfl, rfl⟩) fun vl s2 ⟨l, H2, I2, pl, el, e2⟩ => ?_)
  subst el e2
  refine thn (po_none.run pins s2 σ H2 (fun o G => o = none ∧ G = H2) I2 ⟨rfl, rfl⟩) fun vu s3 ⟨u, H3, I3, pu, eu, e3⟩ => ?_
  subst eu e3
  refine thn (hst.run pins s3 σ H3 (fun o G => o = some (-1) ∧ G = H3) I3 ⟨1, rfl, -1, rfl, rfl, rfl⟩) fun vs s4 ⟨o, H4, I4, ps, eo, e4⟩ => ?_
  subst eo e4
  cases pl
  cases pu
  have I5 : L2.Inv X pins σ H4 { s4 with heap := s4.heap.push { cls := .type "slice", data := .fields #[.none, .none, vs] } } := I4.kept (t' := s4.toks) fun b ob q => Heap.get?_push_of_some _ q
  show wpAny (model X.prog X.w) X.A (subscriptTail e (.Slice none none (some (.UnaryOp .USub (.Constant (.int 1) k p1) p2)) p3) (.ref a) (.ref s4.heap.objs.size)) (EP X pins σ Q) X.xe { s4 with heap := s4.heap.push { cls := .type "slice", data := .fields #[.none, .none, vs] } }
  rcases q with ⟨hx, q⟩ | ⟨hx, q⟩
  · obtain ⟨its, r, ht, hz⟩ := I5.list hx
    have hlen := r.length
    refine PyProof.Rows.tail_any (ops := [.ref a, .ref s4.heap.objs.size]) ht.isList.typeIs (PySem.slot_list_getitem.lookup) ?_ (by with_unfolding_all rfl)
    refine wpAny_getItem_list_slice ht.isList (Heap.IsSliceOf.new _ .none .none vs) .none .none ps (by decide) ?_ (by rw [List.size_toArray]; omega)
    rw [PySem.W.krv_pick]
    exact ⟨.ref _, _, I5.laid (t' := s4.toks) (o := .lst xs.reverse) (fun b ob q => Heap.get?_push_of_some _ q) (Nat.le_refl _) ⟨by rw [List.length_reverse]; exact hz, _, 0, r.reverse, Heap.get?_push_size _ rfl⟩, rfl, q _ (I5.hok.fresh (Nat.le_refl _))⟩
  · obtain ⟨its, r, ht, hz⟩ := I5.tuple hx
    have hlen := r.length
    refine PyProof.Rows.tail_any (ops := [.ref a, .ref s4.heap.objs.size]) ht.typeIs (PyProof.Rows.slot_tuple_getitem.lookup) ?_ (by with_unfolding_all rfl)
    refine rev_tuple ht (Heap.IsSliceOf.new _ .none .none vs) ps ?_ (by rw [List.size_toArray]; omega)
    exact ⟨.ref _, _, I5.laid (t' := s4.toks) (o := .tup xs.reverse) (fun b ob q => Heap.get?_push_of_some _ q) (Nat.le_refl _) ⟨by rw [List.length_reverse]; exact hz, _, r.reverse, PyProof.Rows.IsTup.new _ _⟩, rfl, q _ (I5.hok.fresh (Nat.le_refl _))⟩
def gRev : D → Option D
  | .list ds => some (.list ds.reverse)
  | .tuple ds => some (.tuple ds.reverse)
  | _ => none
def gRevL : D → Option D
  | .list ds => some (.list ds.reverse)
  | _ => none
theorem de_rev {o : Opd} (ha : PE X e (tO (X.kg Tb) o)) : PE X (.Subscript e (.Slice none none (some (.UnaryOp .USub (.Constant (.int 1) k p1) p2)) p3) pos) (tD (X.kg Tb) (op1 gRev o)) :=
  PEi (pe_revT ha) fun σ H Q ⟨B, F, env, d, env', S, ef, kk⟩ => by
    obtain ⟨⟨u, e1⟩, q1, ef⟩ := bd ef
    obtain ⟨x, q2, ef⟩ := bd ef
    obtain ⟨d', q3, ef⟩ := bd ef
    cases ef
    refine ⟨B, F, env, u, _, S, q1, fun v F1 H1 S1 s1 h1 => ?_⟩
    have hx := h1.bv S1 q2
    unfold gRev at q3
    split at q3
    · cases q3
      obtain ⟨p, vs, rfl, hp, t⟩ := hx.lst S1.fh
      exact ⟨p, vs, rfl, .inl ⟨SqL.of hp, fun r hr => kk _ _ _ (S1.new hr) (s1.trans (S1.subNew hr)) (.lst upd_same (t.reverse.mono (S1.subNew hr)))⟩⟩
    · cases q3
      obtain ⟨p, vs, rfl, f, hp, t⟩ := hx.tup S1.fh
      exact ⟨p, vs, rfl, .inr ⟨SqT.of hp, fun r hr => kk _ _ _ (S1.new hr) (s1.trans (S1.subNew hr)) (.tup upd_same (t.reverse.mono (S1.subNew hr)))⟩⟩
    · cases q3
theorem de_revN {o : Opd} (ha : PE X e (tO (X.kg Tb) o)) : PE X (.Subscript e (.Slice none none (some (.UnaryOp .USub (.Constant (.int 1) k p1) p2)) p3) pos) (tN (X.kg Tb) (op1 gRevL o)) :=
  PEi (pe_revT ha) fun σ H Q ⟨B, F, env, d, env', S, ef, kk⟩ => by
    obtain ⟨⟨u, e1⟩, q1, ef⟩ := bd ef
    obtain ⟨x, q2, ef⟩ := bd ef
    obtain ⟨d', q3, ef⟩ := bd ef
    cases ef
    refine ⟨B, F, env, u, _, S, q1, fun v F1 H1 S1 s1 h1 => ?_⟩
    have hx := h1.bv S1 q2
    unfold gRevL at q3
    split at q3
    · cases q3
      obtain ⟨p, vs, rfl, hp, t⟩ := hx.lst S1.fh
      refine ⟨p, vs, rfl, .inl ⟨SqL.of hp, fun r hr => ?_⟩⟩
      have k2 : KN (X.kg Tb) B F1 σ _ _ Q := fun p' F' H' S' s' a1 a2 a3 a4 a5 => kk p' F' H' S' (s1.trans s') a1 a2 a3 a4 a5
      exact k2.at_new S1 hr ⟨_, upd_same, t.reverse⟩
    · cases q3
end

/-! ### the end -/
/-- the law's promise gives the row's walk: from the law's def, called by nobody -/
theorem law_callG {P : Program} {w : World} {K : Fr} {mg mb : Str → Option Value} {k : Nat} {fa a : Addr} {fd : FuncData} {x : Str} {sp : Sp} {s1 : Shared} {vs : List Value} {ns : List Int}
    (inn : K.In s1.heap) (hns : s1.heap.Ns mainGlobals mg) (hb : s1.heap.Ns builtinsNs mb) (hbb : ∀ y : Str, y ≠ "__name__" → mb y = bootBuiltins y) (hlim : s1.heap.NoLimit) (hg : s1.gens = #[])
    (ha : s1.heap.get? a = some { cls := .type "list", data := .seq vs.toArray }) (hi : IntsAre vs ns) (hl : ns.length ≤ sizeLine) (hr : Room k callerA)
    (G : ∀ base : Heap, K.In base → base.Ns mainGlobals mg → FnOkG P w K mg base k fa fd [x] sp) (bind : ∀ (s : Shared) (u : Value), BindsTo s fd ⟨[u], []⟩ [(x, u)])
    (hsp : ∀ H : Hp, Only H → SqL K H a (ns.map V.int) → sp [.ref a] H (fun v _ => v = .bl true) fun _ _ _ => False) :
    codeAny (model P w) callerA (.call (.ref fa) ⟨[.ref a], []⟩) (fun r s' => r = .ok (.ret (.bool true)) ∧ OldK s1.heap s'.heap ∧ s'.os = s1.os ∧ AllBare s'.gens) s1 := by
  have rv := vals_ints hi
  have lenV := hi.length
  have main : ∀ H : Hp, Only H → SqL K H a (ns.map V.int) → HOk P w H s1.heap → (∀ b, H b ≠ none → b = a ∧ K.lookup a = none) → codeAny (model P w) callerA (.call (.ref fa) ⟨[.ref a], []⟩) (fun r s' => r = .ok (.ret (.bool true)) ∧ OldK s1.heap s'.heap ∧ s'.os = s1.os ∧ AllBare s'.gens) s1 := by
    intro H hO hS hok hA
    have free : ∀ {b : Addr} {o : Obj} {es : Array DictEntry} {ep : Nat}, s1.heap.get? b = some o → o.data = .dict es ep → H b = none := fun {b o es ep} e d => by
      cases q : H b with
      | none => rfl
      | some u =>
        obtain ⟨rfl, _⟩ := hA b (by rw [q]; exact fun z => nomatch z)
        rw [ha] at e; cases e
        cases d
    have nsK : ∀ {b : Addr} {m : Str → Option Value}, s1.heap.Ns b m → (hidT s1.heap H).Ns b m := fun {b m} ⟨o, es, ep, e, d, r⟩ => ⟨o, es, ep, hidT_get e (free e d), d, r⟩
    have hK : K.In (hidT s1.heap H) := fun b o e => hidT_get (inn b o e) (by
      cases q : H b with
      | none => rfl
      | some u =>
        obtain ⟨rfl, hk⟩ := hA b (by rw [q]; exact fun z => nomatch z)
        rw [hk] at e; cases e)
    have lim' : (hidT s1.heap H).NoLimit := by
      obtain ⟨mc, h1, h2⟩ := hlim
      exact ⟨mc, nsK h1, h2⟩
    have e0 : Env0 P w K mg (hidT s1.heap H) callerA [] s1 H := ⟨rfl, ⟨hK, nsK hns, ⟨mb, nsK hb, hbb⟩, lim'⟩, fun b o e => of_hidT e, Nat.le_of_eq (hidT_size _ _), trivial, fun b hb => absurd (show b ∈ ([] : List Addr) from hb) (by simp), hok, .of_eq hg⟩
    refine codeAny_mono ((G _ hK (nsK hns)).run callerA [] s1 H ⟨[.ref a], []⟩ [.ref a] [.ref a] _ _ rfl hr e0 (bind s1 (.ref a)) (.cons rfl .nil) (hsp H hO hS)) fun r s' h => ?_
    cases r with
    | error e => exact h.elim
    | ok fl =>
      cases fl with
      | next => exact h.elim
      | brk => exact h.elim
      | cont => exact h.elim
      | ret u =>
        obtain ⟨v, H', os, bare, un, hok', r', q⟩ := h
        have q' : v = .bl true := q
        subst q'
        obtain rfl : u = Value.bool true := r'
        refine ⟨rfl, OldK.of_keep fun b o e => ?_, os, bare⟩
        rcases hO b with z | ⟨ob, xs, z⟩
        · exact un.keep b o e z (fun y => absurd (show b ∈ ([] : List Addr) from y) (by simp)) (by simp)
        · obtain ⟨e1, _⟩ := hok b _ z
          obtain ⟨e2, _⟩ := hok' b _ (un.frzs b ob _ z)
          rw [e] at e1; cases e1
          exact e2
  cases hk : K.lookup a with
  | some o =>
    have e := inn a o hk
    rw [ha] at e
    cases e
    exact main (fun _ => none) (fun _ => .inl rfl) (.inr ⟨_, vs.toArray, _, hk, rfl, rfl, rfl, by rw [List.size_toArray, lenV]; exact hl, by simpa using rv⟩) (fun b u z => by cases z) fun b z => absurd rfl z
  | none =>
    have sa : ∀ {b : Addr} {u : HO}, (fun b => if b = a then some (HO.frz { cls := .type "list", data := .seq vs.toArray } (.lst (ns.map V.int))) else none : Hp) b = some u → b = a ∧ u = HO.frz { cls := .type "list", data := .seq vs.toArray } (.lst (ns.map V.int)) := fun {b u} z => by
      by_cases hb : b = a
      · have z' := (if_pos hb).symm.trans z
        cases z'
        exact ⟨hb, rfl⟩
      · have z' := (if_neg hb).symm.trans z
        cases z'
    refine main (fun b => if b = a then some (.frz { cls := .type "list", data := .seq vs.toArray } (.lst (ns.map V.int))) else none) (fun b => ?_) (.inl (.inr ⟨{ cls := .type "list", data := .seq vs.toArray }, if_pos rfl⟩)) (fun b u z => ?_) fun b z => ?_
    · by_cases hb : b = a
      · exact .inr ⟨_, _, if_pos hb⟩
      · exact .inl (if_neg hb)
    · obtain ⟨rfl, rfl⟩ := sa z
      exact ⟨ha, by rw [List.length_map]; exact hl, vs, _, rv, ha⟩
    · by_cases hb : b = a
      · exact ⟨hb, hk⟩
      · exact absurd (if_neg hb) z
/-- the goal that the head leaves -/
theorem walkG {l : PySem.W.OpenLaw} {n k : Nat} {q : Program} {loose : List Str} {XP : (Str → Option Value) → Heap → Prop} {YP : World → Heap → Prop} {d : DefRec} {x : Str}
    (hn : l.most = some n) (hn2 : n ≤ sizeLine) (hdf : d.params.defaults = []) (hr : Room k callerA)
    (G : ∀ (w : World) (mg : Str → Option Value) (fa : Addr) (h : Heap), YP w h → h.Ns mainGlobals mg → mg d.name = some (.ref fa) →
      ∃ (K : Fr) (fd : FuncData) (sp : Sp), K.In h ∧ (∀ (s : Shared) (u : Value), BindsTo s fd ⟨[u], []⟩ [(x, u)]) ∧ (∀ (H : Hp) (a : Addr) (ns : List Int), ns.length ≤ n → Only H → SqL K H a (ns.map V.int) → sp [.ref a] H (fun v _ => v = .bl true) fun _ _ _ => False) ∧
        ∀ base : Heap, K.In base → base.Ns mainGlobals mg → FnOkG l.prog w K mg base k fa fd [x] sp) : PySem.W.WalkO q loose XP YP l.row.toRowW d [] (fun f vs => PySem.call f vs) := by
  refine Att.attach_call hn hdf fun w s0 s1 mg mb fa o pm cd doc a vs ns Gr Y ho hd hcd hmg hobj hints hlen hg => ?_
  obtain ⟨K, fd, sp, inn, hb, hsp, hF⟩ := G w mg fa _ Y Gr.T.g hmg
  exact law_callG inn Gr.T.g Gr.T.b Gr.T.builtins Gr.T.nolimit hg hobj hints (Nat.le_trans hlen hn2) hr hF hb fun H hO hS => hsp H a ns hlen hO hS
/-- what may be shared: no marks, no tables -/
def ert (H : Hp) : Hp := fun a => match H a with
  | some (.own _) => none
  | some (.tbl _) => none
  | x => x
theorem ert_some {H : Hp} {a : Addr} {o : HO} (h : ert H a = some o) : H a = some o := by
  unfold ert at h
  split at h
  · cases h
  · cases h
  · exact h
theorem ert_at {H : Hp} {a : Addr} {o : HO} (h : H a = some o) (m : Mk o = false) (n : ¬ TC o) : ert H a = some o := by
  unfold ert
  rw [h]
  cases o <;> first | rfl | exact absurd trivial n | exact Bool.noConfusion m
/-- what is to be shown of a law's data: it comes to True -/
theorem spD_law {K : Fg} {g : List D → Option (D × List D)} {ns : List Int} {H : Hp} {a : Addr} (h : g [.dict [(.none, .list (ns.map .int))]] = some (.bool true, [])) (hT : LamX.Tabs K.T H) (hS : SqL K.fr H a (ns.map V.int)) : spD K [false] .fz g [.ref a] H (fun v _ => v = .bl true) fun _ _ _ => False := by
  refine ⟨ert H, _, _, [], [], fun a o h => .inl (ert_some h), fun a m e => ?_, ⟨fun a ks h => ert_at h rfl fun z => z, hT, fun q z => ?_⟩, .fz (.scr ?_) .nil, fun _ _ _ z => (nomatch z), h, fun v F' H' _ _ _ _ _ _ _ r => (r : Dt K F' v (.bool true)).bool_inv⟩
  · have := ert_some e
    unfold ert at e
    rw [this] at e; cases e
  · obtain ⟨ps, e⟩ := tabs_at hT z
    unfold ert; rw [e]
  · rcases hS with z | z
    · rcases z with z | ⟨ob, z⟩
      · exact .inl (.inl (ert_at z rfl fun y => y))
      · exact .inl (.inr ⟨ob, ert_at z rfl fun y => y⟩)
    · exact .inr z
end DL

/-! DLn: dicts read: in, [ ], get. -/
namespace DL
open PySem L2
/-- a key's data -/
def keyD : D → Option Key
  | .int i => some (.inl i)
  | .str x => some (.inr x)
  | _ => none
def keysD : List D → Option (List Key)
  | [] => some []
  | d :: ds => (keyD d).bind fun k => (keysD ds).bind fun ks => some (k :: ks)
def keyT : D → Option (List Key)
  | .tuple ds => keysD ds
  | _ => none
theorem keyD_kD (k : Key) : keyD (kD k) = some k := by cases k <;> rfl
theorem keyD_eq {d : D} {k : Key} (h : keyD d = some k) : d = kD k := by
  cases d <;> simp [keyD] at h <;> subst h <;> rfl
theorem keysD_kD : ∀ ks : List Key, keysD (ks.map kD) = some ks
  | [] => rfl
  | k :: ks => by simp [keysD, keyD_kD, keysD_kD ks]
theorem keysD_eq : ∀ {ds : List D} {ks : List Key}, keysD ds = some ks → ds = ks.map kD
  | [], _, h => by cases h; rfl
  | d :: ds, ks, h => by
    obtain ⟨k, h1, h⟩ := bd h
    obtain ⟨r, h2, h⟩ := bd h
    cases h
    rw [keyD_eq h1, keysD_eq h2]; rfl
theorem Dt.keyV {K : Fg} {F : Hp} {v : V} {k : Key} (h : Dt K F v (kD k)) : v = kV k := by
  cases k with
  | inl i => exact h.int_inv
  | inr x => exact h.str_inv
theorem DtA.keysV {K : Fg} {F : Hp} : ∀ {vs : List V} {ks : List Key}, DtA K F vs (ks.map kD) → vs = ks.map kV
  | _, [], .nil => rfl
  | _, k :: ks, .cons h t => by rw [h.keyV, DtA.keysV t]; rfl
/-- what stands at a key -/
def findK (es : List (D × D)) (k : Key) : Option D := (es.find? fun e => decide (keyD e.1 = some k)).map (·.2)
def findT (es : List (D × D)) (k : List Key) : Option D := (es.find? fun e => decide (keyT e.1 = some k)).map (·.2)
theorem DtK.val {K : Fg} {F : Hp} (k : Key) : ∀ {kvs : List (Key × V)} {es : List (D × D)}, DtK K F kvs es → (valV kvs k = none ∧ findK es k = none) ∨ ∃ v d, valV kvs k = some v ∧ findK es k = some d ∧ Dt K F v d
  | _, _, .nil => .inl ⟨rfl, rfl⟩
  | (k', v') :: kvs, _, .cons (d := d) h t => by
    by_cases e : k' = k
    · refine .inr ⟨v', d, valV_pos e, ?_, h⟩
      simp [findK, List.find?_cons, keyD_kD, e]
    · rw [valV_neg (p := (k', v')) e]
      rcases t.val k with ⟨h1, h2⟩ | ⟨v, d', h1, h2, h3⟩
      · refine .inl ⟨h1, ?_⟩
        simpa [findK, List.find?_cons, keyD_kD, e] using h2
      · refine .inr ⟨v, d', h1, ?_, h3⟩
        simpa [findK, List.find?_cons, keyD_kD, e] using h2
theorem DtT.val {K : Fg} {F : Hp} (k : List Key) : ∀ {kvs : List (List Key × V)} {es : List (D × D)}, DtT K F kvs es → (valV kvs k = none ∧ findT es k = none) ∨ ∃ v d, valV kvs k = some v ∧ findT es k = some d ∧ Dt K F v d
  | _, _, .nil => .inl ⟨rfl, rfl⟩
  | (k', v') :: kvs, _, .cons (d := d) h t => by
    by_cases e : k' = k
    · refine .inr ⟨v', d, valV_pos e, ?_, h⟩
      simp [findT, List.find?_cons, keyT, keysD_kD, e]
    · rw [valV_neg (p := (k', v')) e]
      rcases t.val k with ⟨h1, h2⟩ | ⟨v, d', h1, h2, h3⟩
      · refine .inl ⟨h1, ?_⟩
        simpa [findT, List.find?_cons, keyT, keysD_kD, e] using h2
      · refine .inr ⟨v, d', h1, ?_, h3⟩
        simpa [findT, List.find?_cons, keyT, keysD_kD, e] using h2
/-- d's value at k: told, or none there -/
def dGet : D → D → Option (Option D)
  | .dict ((.bool true, .none) :: es), k => (keyT k).bind fun ks => some (findT es ks)
  | .dict es, k => if plainTy (.dict es) = true then (keyD k).bind fun kk => some (findK es kk) else none
  | _, _ => none
section
variable {K : Fg} {B : Bs} {F H : Hp} {σ : L2.St} {env : En}
theorem Bv.dk {v : V} {es : List (D × D)} (h : Bv K F H v (.dict es)) (l : Lk F H) (p : plainTy (.dict es) = true) : ∃ a kvs, v = .ref a ∧ Rd H a (.dK kvs) ∧ DtK K F kvs es := by
  rcases h with h | ⟨a, rfl, _, ho⟩
  · cases h with
    | scr _ => cases p
    | dk e t => exact ⟨_, _, rfl, l.rd rfl (.inl e), t⟩
    | dt e t => cases p
    | exc _ _ => cases p
    | exf _ _ _ _ => cases p
    | fn _ => cases p
  · rcases ho with ⟨kvs, e, t⟩ | ⟨kvs, es', rfl, e, t⟩
    · exact ⟨_, _, rfl, .inl e, t⟩
    · cases p
theorem Bv.dT {v : V} {es : List (D × D)} (h : Bv K F H v (.dict ((.bool true, .none) :: es))) (l : Lk F H) : ∃ a kvs, v = .ref a ∧ Rd H a (.dT kvs) ∧ DtT K F kvs es := by
  rcases h with h | ⟨a, rfl, _, ho⟩
  · cases h with
    | dk e t =>
      obtain ⟨k, q⟩ := t.key _ List.mem_cons_self
      cases k <;> cases q
    | dt e t => exact ⟨_, _, rfl, l.rd rfl (.inl e), t⟩
  · rcases ho with ⟨kvs, e, t⟩ | ⟨kvs, es', e0, e, t⟩
    · obtain ⟨k, q⟩ := t.key _ List.mem_cons_self
      cases k <;> cases q
    · cases e0
      exact ⟨_, _, rfl, .inl e, t⟩
def Told (K : Fg) (F : Hp) (r : Option D) (o : Option V) : Prop := (r = none ∧ o = none) ∨ ∃ d v, r = some d ∧ o = some v ∧ Dt K F v d
theorem dget_ok {x y : V} {d k : D} {r : Option D} (l : Lk F H) (hx : Bv K F H x d) (hy : Bv K F H y k) (h : dGet d k = some r) : ∃ a o, x = .ref a ∧ IsD H a ∧ DGet H a y o ∧ Told K F r o := by
  unfold dGet at h
  split at h
  · obtain ⟨ks, h1, h⟩ := bd h
    cases h
    obtain ⟨a, kvs, rfl, e, t⟩ := hx.dT l
    cases k <;> simp [keyT] at h1
    rename_i ds
    have := keysD_eq h1
    subst this
    obtain ⟨b, vs, rfl, _, hb, tv⟩ := hy.tup l
    rw [tv.keysV] at hb
    refine ⟨a, valV kvs ks, rfl, .inr ⟨kvs, e⟩, .inr ⟨kvs, ks, b, e, rfl, hb, rfl⟩, ?_⟩
    rcases t.val ks with ⟨g1, g2⟩ | ⟨v, d', g1, g2, g3⟩
    · exact .inl ⟨g2, g1⟩
    · exact .inr ⟨d', v, g2, g1, g3⟩
  · split at h
    · rename_i hp
      obtain ⟨kk, h1, h⟩ := bd h
      cases h
      obtain ⟨a, kvs, rfl, e, t⟩ := hx.dk l hp
      have hk := keyD_eq h1
      subst hk
      have hv : y = kV kk := by
        cases kk with
        | inl i => exact hy.int_inv
        | inr z => exact hy.str_inv
      subst hv
      refine ⟨a, valV kvs kk, rfl, .inl ⟨kvs, e⟩, .inl ⟨kvs, kk, e, rfl, rfl⟩, ?_⟩
      rcases t.val kk with ⟨g1, g2⟩ | ⟨v, d', g1, g2, g3⟩
      · exact .inl ⟨g2, g1⟩
      · exact .inr ⟨d', v, g2, g1, g3⟩
    · cases h
  · cases h
end

/-! ### k in d, k not in d; x in xs -/
def rInDict : R2 := fun x y H Q => ∃ a o, y = .ref a ∧ DGet H a x o ∧ Q (.bl o.isSome) H
def rNotInDict : R2 := fun x y H Q => ∃ a o, y = .ref a ∧ DGet H a x o ∧ Q (.bl (!o.isSome)) H
section
variable {X : Cx} {Tb : TbT}
theorem op_inDict (hu : X.A.units + 1 < cLine) : OpR X (compareOp .In) rInDict := by
  intro pins s σ H x y v u Q I rx ry h
  obtain ⟨a, o, rfl, g, q⟩ := h
  cases ry
  exact d_in hu I g rx fun s' I' => ⟨.bl _, H, I', rfl, q⟩
theorem op_notInDict (hu : X.A.units + 1 < cLine) : OpR X (compareOp .NotIn) rNotInDict := by
  intro pins s σ H x y v u Q I rx ry h
  obtain ⟨a, o, rfl, g, q⟩ := h
  cases ry
  exact d_notIn hu I g rx fun s' I' => ⟨.bl _, H, I', rfl, q⟩
/-- tuples of whole numbers, texts, None: by the scalar's rule; lists: of any data -/
def gInn (n : Bool) : D → D → Option D := fun k d => match d with
  | .dict es => (dGet (.dict es) k).bind fun r => some (.bool (xor n r.isSome))
  | .list ds => if (noDct k && SeqAt.shaped k && (noDcts ds && SeqAt.shaped (.list ds))) = true then some (.bool (xor n (ds.any fun z => PyData.eqv z k))) else none
  | _ => none
def gIn := gInn false
def gNotIn := gInn true
def rIns (K : Fr) : R2 := fun x y H Q => rInDict x y H Q ∨ rInD K x y H Q
def rNotIns (K : Fr) : R2 := fun x y H Q => rNotInDict x y H Q ∨ rNotInD K x y H Q
theorem op_ins (hu : X.A.units + 65 < cLine) : OpR X (compareOp .In) (rIns X.K) := OpR.or (op_inDict (by omega)) (op_inD hu)
theorem op_notIns (hu : X.A.units + 65 < cLine) : OpR X (compareOp .NotIn) (rNotIns X.K) := OpR.or (op_notInDict (by omega)) (op_notInD hu)
theorem Told.some {K : Fg} {F : Hp} {r : Option D} {o : Option V} (h : Told K F r o) : o.isSome = r.isSome := by
  rcases h with ⟨rfl, rfl⟩ | ⟨d, v, rfl, rfl, _⟩ <;> rfl
theorem ok_in {K : Fg} : Ok2 K (rIns K.fr) gIn := fun {B F H σ env x y a b d Q} S ha hb e k => by
  unfold gIn gInn at e
  split at e
  · obtain ⟨r, h1, e⟩ := bd e
    cases e
    obtain ⟨p, o, rfl, _, g, t⟩ := dget_ok S.fh hb ha h1
    refine .inl ⟨p, o, rfl, g, ?_⟩
    rw [t.some]
    simpa using k _ F H S (Sub.refl _) (.bl _)
  · split at e
    · rename_i ds h
      cases e
      simp only [Bool.and_eq_true] at h
      refine .inr ⟨_, ds, ha.dp S.fh h.1.1, hb.dp S.fh (by simpa [noDct] using h.2.1), h.1.2, h.2.2, by simpa using k _ F H S (Sub.refl _) (.bl _)⟩
    · cases e
  · cases e
theorem ok_notIn {K : Fg} : Ok2 K (rNotIns K.fr) gNotIn := fun {B F H σ env x y a b d Q} S ha hb e k => by
  unfold gNotIn gInn at e
  split at e
  · obtain ⟨r, h1, e⟩ := bd e
    cases e
    obtain ⟨p, o, rfl, _, g, t⟩ := dget_ok S.fh hb ha h1
    refine .inl ⟨p, o, rfl, g, ?_⟩
    rw [t.some]
    simpa using k _ F H S (Sub.refl _) (.bl _)
  · split at e
    · rename_i ds h
      cases e
      simp only [Bool.and_eq_true] at h
      refine .inr ⟨_, ds, ha.dp S.fh h.1.1, hb.dp S.fh (by simpa [noDct] using h.2.1), h.1.2, h.2.2, by simpa using k _ F H S (Sub.refl _) (.bl _)⟩
    · cases e
  · cases e

/-! ### d[k] -/
variable {a b e f : Expr} {pos : Pos}
def gIxD : D → D → Option D := fun d k => match d with
  | .dict es => (dGet (.dict es) k).bind fun r => r
  | _ => none
/-- x[k], of a dict or else -/
def gIxs : D → D → Option D := fun d k => match gIx d k with
  | some r => some r
  | none => gIxD d k
theorem PE.or {e : Expr} {t u : TE} (h1 : PE X e t) (h2 : PE X e u) : PE X e (fun σ H Q => t σ H Q ∨ u σ H Q) := ⟨fun pins s σ H Q I q => by
  rcases q with q | q
  · exact h1.run pins s σ H Q I q
  · exact h2.run pins s σ H Q I q⟩
theorem ixs_le {K : Fg} {oa ob : Opd} : ∀ σ H Q, tD K (op2 gIxs oa ob) σ H Q → tOp (fun x y H Q => rIx K.fr x y H Q ∨ ∃ a v, x = .ref a ∧ DGet H a y (some v) ∧ Q v H) (tO K oa) (tO K ob) σ H Q := op2_le fun {B F H σ env x y a b d Q} S ha hb e k => by
  unfold gIxs at e
  split at e
  · rename_i r h
    cases e
    exact .inl (ok_ix S ha hb h k)
  · unfold gIxD at e
    split at e
    · obtain ⟨r, h1, e⟩ := bd e
      subst e
      obtain ⟨p, o, rfl, _, g, t⟩ := dget_ok S.fh ha hb h1
      rcases t with ⟨z, _⟩ | ⟨d', v, z, rfl, hd⟩
      · cases z
      · cases z
        exact .inr ⟨p, v, rfl, g, k _ F H S (Sub.refl _) hd⟩
    · cases e
end
end DL

/-! DLo: d[k], d.get(k), d.get(k, x), x is None, d[k] = v. -/
namespace DL
open PySem PySem.Spec PyProof.Rows L2
section
variable {X : Cx} {Tb : TbT} {a b e f o : Expr} {pos apos cpos : Pos}
def rIxDict : R2 := fun x y H Q => ∃ a v, x = .ref a ∧ DGet H a y (some v) ∧ Q v H
theorem ix_dict (hu : X.A.units + 1 < cLine) : IxR X rIxDict := by
  intro value slice pins s σ H x y v u Q I rx ry h hs
  obtain ⟨a, z, rfl, g, q⟩ := h
  cases rx
  have hT := dict_typeIs I g
  have h₂ : wpAny (model X.prog X.w) X.A (getItem (.ref a) u) (EP X pins σ Q) X.xe s := d_getItem hu I g ry fun w' s3 I3 rw' => ⟨z, H, I3, rw', q⟩
  unfold subscriptTail
  refine wpAny_bind ?_
  rw [getitemInPython_of_ne hT.not_modules]
  refine wpAny_bind (wpAny_specialOf hT PySem.F.slot_dict_getitem.lookup ?_)
  have fin : wpAny (model X.prog X.w) X.A (subscripted slice false (.ref a) u) (fun r s₃ => wpAny (model X.prog X.w) X.A (letTemporaryGo value (.ref a) r >>= fun _ => pure r) (EP X pins σ Q) X.xe s₃) X.xe s := by
    rw [hs]
    exact wpAny_operating (wpAny_mono h₂ (fun r s₃ h₃ => wpAny_bind (wpAny_letTemporaryGo (wpAny_pure h₃))) fun _ _ x => x)
  first
    | exact wpAny_pure (wpAny_bind fin)
    | exact wpAny_bind (wpAny_pure (wpAny_bind fin))
    | exact wpAny_bind fin
theorem de_ixs {oa ob : Opd} (hu : X.A.units + 1 < cLine) (ha : PE X a (tO (X.kg Tb) oa)) (hb : PE X b (tO (X.kg Tb) ob)) (hs : PlainIx b) : PE X (.Subscript a b pos) (tD (X.kg Tb) (op2 gIxs oa ob)) := PEi (pe_ix (IxR.or ix_seq (ix_dict hu)) ha hb hs) ixs_le

/-! ### d.get(k), d.get(k, x) -/
def isDc : D → Bool
  | .dict ((.bool true, .none) :: _) => true
  | .dict es => plainTy (.dict es)
  | _ => false
theorem isDc_ok {K : Fg} {F H : Hp} {v : V} {d : D} (h : Bv K F H v d) (l : Lk F H) (p : isDc d = true) : ∃ a, v = .ref a ∧ IsD H a := by
  unfold isDc at p
  split at p
  · obtain ⟨a, kvs, rfl, e, _⟩ := h.dT l; exact ⟨a, rfl, .inr ⟨_, e⟩⟩
  · obtain ⟨a, kvs, rfl, e, _⟩ := h.dk l p; exact ⟨a, rfl, .inl ⟨_, e⟩⟩
  · cases p
def eGet1 (a k : Opd) : Df := fun env => (a.ev env).bind fun r => (r.1.look r.2).bind fun x => if isDc x = true then (k.ev r.2).bind fun t => (r.1.look t.2).bind fun x => (t.1.look t.2).bind fun y => (dGet x y).bind fun z => some (z.getD .none, t.2) else none
def eGet2 (a k : Opd) (f : Df) : Df := fun env => (a.ev env).bind fun r => (r.1.look r.2).bind fun x => if isDc x = true then (k.ev r.2).bind fun t => (f t.2).bind fun w => (r.1.look w.2).bind fun x => (t.1.look w.2).bind fun y => (dGet x y).bind fun z => some (z.getD w.1, w.2) else none
theorem de_get1 {oa ok : Opd} (hu : X.A.units + 1 < cLine) (ha : PE X o (tO (X.kg Tb) oa)) (hk : PE X e (tO (X.kg Tb) ok)) (m : M1 X o "get" apos e cpos := by exact ⟨rfl, rfl, rfl, rfl⟩) : PE X (.Call (.Attribute o "get" apos) [e] [] cpos) (tD (X.kg Tb) (eGet1 oa ok)) := PEi (pe_dget1 hu ha hk m) fun σ H Q ⟨B, F, env, d, env', S, ef, k⟩ => by
  obtain ⟨⟨u, e1⟩, q1, ef⟩ := bd ef
  obtain ⟨x0, q2, ef⟩ := bd ef
  dsimp only at ef
  split at ef
  · rename_i hd
    obtain ⟨⟨w, e2⟩, q3, ef⟩ := bd ef
    obtain ⟨x, q4, ef⟩ := bd ef
    obtain ⟨y, q5, ef⟩ := bd ef
    obtain ⟨z, q6, ef⟩ := bd ef
    cases ef
    refine ⟨B, F, env, u, e1, S, q1, fun v F1 H1 S1 s1 h1 => ?_⟩
    obtain ⟨p, rfl, hD⟩ := isDc_ok (h1.bv S1 q2) S1.fh hd
    refine ⟨p, rfl, hD, B, F1, e1, w, _, S1, q3, fun v2 F2 H2 S2 s2 h2 => ?_⟩
    obtain ⟨p', ov, e', _, g, t⟩ := dget_ok S2.fh ((h1.mono s2).bv S2 q4) (h2.bv S2 q5) q6
    cases e'
    refine ⟨ov, g, k _ F2 H2 S2 (s1.trans s2) ?_⟩
    rcases t with ⟨rfl, rfl⟩ | ⟨d, v, rfl, rfl, hd⟩
    · exact .non
    · exact hd
  · cases ef
theorem de_get2 {oa ok : Opd} {fx : Df} (hu : X.A.units + 1 < cLine) (ha : PE X o (tO (X.kg Tb) oa)) (hk : PE X e (tO (X.kg Tb) ok)) (hf : PE X f (tD (X.kg Tb) fx)) (m : M2 X o "get" apos e f cpos := by exact ⟨rfl, rfl, rfl, rfl⟩) : PE X (.Call (.Attribute o "get" apos) [e, f] [] cpos) (tD (X.kg Tb) (eGet2 oa ok fx)) := PEi (pe_dget2 hu ha hk hf m) fun σ H Q ⟨B, F, env, d, env', S, ef, k⟩ => by
  obtain ⟨⟨u, e1⟩, q1, ef⟩ := bd ef
  obtain ⟨x0, q2, ef⟩ := bd ef
  dsimp only at ef
  split at ef
  · rename_i hd
    obtain ⟨⟨w, e2⟩, q3, ef⟩ := bd ef
    obtain ⟨⟨dx, e3⟩, q7, ef⟩ := bd ef
    obtain ⟨x, q4, ef⟩ := bd ef
    obtain ⟨y, q5, ef⟩ := bd ef
    obtain ⟨z, q6, ef⟩ := bd ef
    cases ef
    refine ⟨B, F, env, u, e1, S, q1, fun v F1 H1 S1 s1 h1 => ?_⟩
    obtain ⟨p, rfl, hD⟩ := isDc_ok (h1.bv S1 q2) S1.fh hd
    refine ⟨p, rfl, hD, B, F1, e1, w, e2, S1, q3, fun v2 F2 H2 S2 s2 h2 => ⟨B, F2, e2, dx, _, S2, q7, fun v3 F3 H3 S3 s3 h3 => ?_⟩⟩
    obtain ⟨p', ov, e', _, g, t⟩ := dget_ok S3.fh ((h1.mono (s2.trans s3)).bv S3 q4) ((h2.mono s3).bv S3 q5) q6
    cases e'
    refine ⟨ov, g, k _ F3 H3 S3 ((s1.trans s2).trans s3) ?_⟩
    rcases t with ⟨rfl, rfl⟩ | ⟨d, v, rfl, rfl, hd⟩
    · exact h3
    · exact hd
  · cases ef

/-! ### x is None, x is not None -/
def isNon : D → Bool
  | .none => true
  | _ => false
theorem Bv.non_iff {K : Fg} {F H : Hp} {v : V} {d : D} (h : Bv K F H v d) : decide (v = .non) = isNon d := by
  rcases h with h | ⟨p, rfl, _, ho⟩
  · cases h <;> simp [isNon]
  · cases d <;> first | exact ho.elim | simp [isNon]
def gIsN (n : Bool) : D → Option D := fun d => some (.bool (xor n (isNon d)))
theorem de_isN {oa : Opd} {j : Nat} {p' : Pos} (ha : PE X a (tO (X.kg Tb) oa)) : PE X (.Compare a [.Is] [.Constant .none j p'] pos) (tD (X.kg Tb) (op1 (gIsN false) oa)) := PEi (pe_cmp (pc_isN ha)) fun σ H Q ⟨B, F, env, d, env', S, ef, k⟩ => by
  obtain ⟨⟨u, e1⟩, q1, ef⟩ := bd ef
  obtain ⟨x, q2, ef⟩ := bd ef
  cases ef
  refine ⟨B, F, env, u, _, S, q1, fun v F1 H1 S1 s1 h1 => ?_⟩
  dsimp only
  rw [(h1.bv S1 q2).non_iff]
  simpa using k _ F1 H1 S1 s1 (.bl _)
theorem de_notN {oa : Opd} {j : Nat} {p' : Pos} (ha : PE X a (tO (X.kg Tb) oa)) : PE X (.Compare a [.IsNot] [.Constant .none j p'] pos) (tD (X.kg Tb) (op1 (gIsN true) oa)) := PEi (pe_cmp (pc_notN ha)) fun σ H Q ⟨B, F, env, d, env', S, ef, k⟩ => by
  obtain ⟨⟨u, e1⟩, q1, ef⟩ := bd ef
  obtain ⟨x, q2, ef⟩ := bd ef
  cases ef
  refine ⟨B, F, env, u, _, S, q1, fun v F1 H1 S1 s1 h1 => ?_⟩
  dsimp only
  rw [(h1.bv S1 q2).non_iff]
  simpa using k _ F1 H1 S1 s1 (.bl _)
theorem dt_isN {oa : Opd} {j : Nat} {p' : Pos} (ha : PE X a (tO (X.kg Tb) oa)) : PT X (.Compare a [.Is] [.Constant .none j p'] pos) (tT (X.kg Tb) (bD (op1 (gIsN false) oa))) := PTi (pt_cmp (pc_isN ha)) fun σ H Q ⟨B, F, env, b, env', S, ef, k⟩ => by
  obtain ⟨⟨u, e1⟩, q1, ef⟩ := bd (bD_inv ef)
  obtain ⟨x, q2, ef⟩ := bd ef
  cases ef
  refine ⟨B, F, env, u, _, S, q1, fun v F1 H1 S1 s1 h1 => ⟨_, by rw [(h1.bv S1 q2).non_iff], ?_⟩⟩
  simpa using k F1 H1 S1 s1
theorem dt_notN {oa : Opd} {j : Nat} {p' : Pos} (ha : PE X a (tO (X.kg Tb) oa)) : PT X (.Compare a [.IsNot] [.Constant .none j p'] pos) (tT (X.kg Tb) (bD (op1 (gIsN true) oa))) := PTi (pt_cmp (pc_notN ha)) fun σ H Q ⟨B, F, env, b, env', S, ef, k⟩ => by
  obtain ⟨⟨u, e1⟩, q1, ef⟩ := bd (bD_inv ef)
  obtain ⟨x, q2, ef⟩ := bd ef
  cases ef
  refine ⟨B, F, env, u, _, S, q1, fun v F1 H1 S1 s1 h1 => ⟨_, by rw [(h1.bv S1 q2).non_iff], ?_⟩⟩
  simpa using k F1 H1 S1 s1

/-! ### d[k] = v, d one's own -/
def putD (es : List (D × D)) (k : Key) (d : D) : List (D × D) := if (es.any fun e => decide (keyD e.1 = some k)) = true then es.map fun e => if keyD e.1 = some k then (e.1, d) else e else es ++ [(kD k, d)]
def putDT (es : List (D × D)) (k : List Key) (d : D) : List (D × D) := if (es.any fun e => decide (keyT e.1 = some k)) = true then es.map fun e => if keyT e.1 = some k then (e.1, d) else e else es ++ [(.tuple (k.map kD), d)]
theorem DtK.any {K : Fg} {F : Hp} (k : Key) : ∀ {kvs : List (Key × V)} {es : List (D × D)}, DtK K F kvs es → (kvs.any fun kv => decide (kv.1 = k)) = es.any fun e => decide (keyD e.1 = some k)
  | _, _, .nil => rfl
  | _, _, .cons _ t => by simp [List.any_cons, keyD_kD, t.any k]
theorem DtT.any {K : Fg} {F : Hp} (k : List Key) : ∀ {kvs : List (List Key × V)} {es : List (D × D)}, DtT K F kvs es → (kvs.any fun kv => decide (kv.1 = k)) = es.any fun e => decide (keyT e.1 = some k)
  | _, _, .nil => rfl
  | _, _, .cons _ t => by simp [List.any_cons, keyT, keysD_kD, t.any k]
theorem DtK.repl {K : Fg} {F : Hp} {v : V} {d : D} (h : Dt K F v d) (k : Key) : ∀ {kvs : List (Key × V)} {es : List (D × D)}, DtK K F kvs es → DtK K F (kvs.map fun kv => if kv.1 = k then (kv.1, v) else kv) (es.map fun e => if keyD e.1 = some k then (e.1, d) else e)
  | _, _, .nil => .nil
  | (k', v') :: _, _, .cons (d := d') r t => by
    by_cases e : k' = k
    · simp only [List.map_cons, keyD_kD, e, if_true]; exact .cons h (t.repl h k)
    · simp only [List.map_cons, keyD_kD, e, if_false, Option.some.injEq]; exact .cons r (t.repl h k)
theorem DtT.repl {K : Fg} {F : Hp} {v : V} {d : D} (h : Dt K F v d) (k : List Key) : ∀ {kvs : List (List Key × V)} {es : List (D × D)}, DtT K F kvs es → DtT K F (kvs.map fun kv => if kv.1 = k then (kv.1, v) else kv) (es.map fun e => if keyT e.1 = some k then (e.1, d) else e)
  | _, _, .nil => .nil
  | (k', v') :: _, _, .cons (d := d') r t => by
    by_cases e : k' = k
    · simp only [List.map_cons, keyT, keysD_kD, e, if_true]; exact .cons h (t.repl h k)
    · simp only [List.map_cons, keyT, keysD_kD, e, if_false, Option.some.injEq]; exact .cons r (t.repl h k)
theorem DtK.snoc {K : Fg} {F : Hp} {v : V} {d : D} (h : Dt K F v d) (k : Key) : ∀ {kvs : List (Key × V)} {es : List (D × D)}, DtK K F kvs es → DtK K F (kvs ++ [(k, v)]) (es ++ [(kD k, d)])
  | _, _, .nil => .cons h .nil
  | _, _, .cons r t => .cons r (t.snoc h k)
theorem DtT.snoc {K : Fg} {F : Hp} {v : V} {d : D} (h : Dt K F v d) (k : List Key) : ∀ {kvs : List (List Key × V)} {es : List (D × D)}, DtT K F kvs es → DtT K F (kvs ++ [(k, v)]) (es ++ [(.tuple (k.map kD), d)])
  | _, _, .nil => .cons h .nil
  | _, _, .cons r t => .cons r (t.snoc h k)
theorem DtK.put {K : Fg} {F : Hp} {v : V} {d : D} (h : Dt K F v d) (k : Key) {kvs : List (Key × V)} {es : List (D × D)} (t : DtK K F kvs es) : DtK K F (putK kvs k v) (putD es k d) := by
  unfold putK putD
  rw [t.any k]
  split
  · exact t.repl h k
  · exact t.snoc h k
theorem DtT.put {K : Fg} {F : Hp} {v : V} {d : D} (h : Dt K F v d) (k : List Key) {kvs : List (List Key × V)} {es : List (D × D)} (t : DtT K F kvs es) : DtT K F (putK kvs k v) (putDT es k d) := by
  unfold putK putDT
  rw [t.any k]
  split
  · exact t.repl h k
  · exact t.snoc h k
theorem DtK.length {K : Fg} {F : Hp} : ∀ {kvs : List (Key × V)} {es : List (D × D)}, DtK K F kvs es → kvs.length = es.length
  | _, _, .nil => rfl
  | _, _, .cons _ t => congrArg Nat.succ t.length
theorem DtT.length {K : Fg} {F : Hp} : ∀ {kvs : List (List Key × V)} {es : List (D × D)}, DtT K F kvs es → kvs.length = es.length
  | _, _, .nil => rfl
  | _, _, .cons _ t => congrArg Nat.succ t.length
def gPutD (k x : D) : D → Option D
  | .dict ((.bool true, .none) :: es) => if es.length < 100000 then (keyT k).bind fun ks => some (.dict ((.bool true, .none) :: putDT es ks x)) else none
  | .dict es => if plainTy (.dict es) = true ∧ es.length < 100000 then (keyD k).bind fun kk => some (.dict (putD es kk x)) else none
  | _ => none
def ownD : Option Sv → Option D
  | some (.ow (.dict es)) => some (.dict es)
  | some (.pw (.dict es)) => some (.dict es)
  | _ => none
theorem ownD_inv {i : Nat} {env : En} {d : D} (h : ownD env[i]? = some d) : ∃ es, d = .dict es ∧ IsOw env i d := by
  unfold ownD at h
  split at h
  · rename_i q; cases h; exact ⟨_, rfl, .inl q⟩
  · rename_i q; cases h; exact ⟨_, rfl, .inr q⟩
  · cases h
def sPutD (i : Nat) (f : Df) (ob : Opd) : Sf := fun env => (f env).bind fun r => (ownD r.2[i]?).bind fun _ => (ob.ev r.2).bind fun t => (t.1.look t.2).bind fun y => (chgAt i (gPutD y r.1) t.2).bind fun e => some (.nx e)
theorem put_own {K : Fg} {F H : Hp} {p : Addr} {y v : V} {k x d d' : D} (l : Lk F H) (ho : Own K F H p d) (hn : F p = none) (hy : Bv K F H y k) (hv : Dt K F v x) (hg : gPutD k x d = some d') : ∃ o, DPut H p y v (upd H p o) ∧ Own K F (upd H p o) p d' := by
  unfold gPutD at hg
  split at hg
  · split at hg
    · rename_i es hl
      obtain ⟨ks, h1, hg⟩ := bd hg
      cases hg
      rcases ho with ⟨kvs, e, t⟩ | ⟨kvs, es', e0, e, t⟩
      · obtain ⟨k, q⟩ := t.key _ List.mem_cons_self
        cases k <;> cases q
      · cases e0
        cases k <;> simp [keyT] at h1
        have := keysD_eq h1
        subst this
        obtain ⟨b, vs, rfl, _, hb, tv⟩ := hy.tup l
        rw [tv.keysV] at hb
        exact ⟨_, DPut.t e hb (by rw [t.length]; exact Nat.lt_of_lt_of_le hl (by decide)), .inr ⟨_, _, rfl, upd_same, t.put hv ks⟩⟩
    · cases hg
  · split at hg
    · rename_i hl
      obtain ⟨kk, h1, hg⟩ := bd hg
      cases hg
      have hk := keyD_eq h1
      subst hk
      have hyv : y = kV kk := by
        cases kk with
        | inl i => exact hy.int_inv
        | inr z => exact hy.str_inv
      subst hyv
      rcases ho with ⟨kvs, e, t⟩ | ⟨kvs, es', e0, e, t⟩
      · exact ⟨_, DPut.k e (by rw [t.length]; exact Nat.lt_of_lt_of_le hl.2 (by decide)), .inl ⟨_, upd_same, t.put hv kk⟩⟩
      · subst e0
        cases hl.1
    · cases hg
  · cases hg
theorem dS_putD {wh : Wh} {i : Nat} {x : Str} {ob : Opd} {f : Df} {p1 p2 : Pos} (hu : X.A.units + 1 < cLine) (he : PE X e (tD (X.kg Tb) f)) (hb : PE X b (tO (X.kg Tb) ob)) (hN : X.N[i]? = some x := by rfl) (hv : Vis X.env.scope x := by first | exact Or.inl rfl | exact Or.inr (Or.inl rfl) | exact Or.inr (Or.inr rfl)) (hd : (x == ("__debug__" : Str)) = false := by decide) (hcd : (x == ("__classdict__" : Str)) = false := by decide)
    (hs : swapsWith e (some (.Subscript (.Name x p1) b p2)) pos.line X.env = pure false := by rfl) : PS X (.Assign [.Subscript (.Name x p1) b p2] e pos) (tS (X.kg Tb) wh (sPutD i f ob)) :=
  PSi (ps_dput hu (pe_var hN hv hd hcd) hb he hs) fun E σ H ⟨B, F, env, r, S, ef, k⟩ => by
    obtain ⟨⟨d, e1⟩, q1, ef⟩ := bd ef
    obtain ⟨l0, q2, ef⟩ := bd ef
    obtain ⟨⟨u, e2⟩, q3, ef⟩ := bd ef
    obtain ⟨y, q4, ef⟩ := bd ef
    obtain ⟨e3, q5, ef⟩ := bd ef
    cases ef
    obtain ⟨d0, d1, z, ow, hg, hx, rfl⟩ := chgAt_inv q5
    refine ⟨B, F, env, d, e1, S, q1, fun v F1 H1 S1 s1 hv1 => ?_⟩
    obtain ⟨es0, _, ow0⟩ := ownD_inv q2
    obtain ⟨p, h1, _⟩ := S1.own i _ ow0
    refine ⟨_, h1, B, F1, e1, u, e2, S1, q3, fun w F2 H2 S2 s2 hw2 => ?_⟩
    have hy := hw2.bv S2 q4
    obtain ⟨p', g1, g2, g3, _⟩ := S2.own i _ ow
    rw [h1] at g1; cases g1
    obtain ⟨o, dp, ho⟩ := put_own S2.fh g3 g2 hy (hv1.mono s2) hg
    exact ⟨p, _, rfl, dp, k _ F2 _ (S2.chg ow h1 hx ho) (s1.trans s2)⟩
def sPut (i : Nat) (f : Df) (ob : Opd) : Sf := fun env => match sSetIx i f ob env with
  | some r => some r
  | none => sPutD i f ob env
theorem dS_or {wh : Wh} {st : Stmt} {f g : Sf} (h1 : PS X st (tS (X.kg Tb) wh f)) (h2 : PS X st (tS (X.kg Tb) wh g)) : PS X st (tS (X.kg Tb) wh fun env => match f env with | some r => some r | none => g env) := ⟨fun pins s σ H E I ⟨B, F, env, r, S, ef, k⟩ => by
  cases q : f env with
  | some r' =>
    have ef : (match f env with | some r => some r | none => g env) = some r := ef
    rw [q] at ef
    exact h1.run pins s σ H E I ⟨B, F, env, r, S, by rw [q]; exact ef, k⟩
  | none =>
    have ef : (match f env with | some r => some r | none => g env) = some r := ef
    rw [q] at ef
    exact h2.run pins s σ H E I ⟨B, F, env, r, S, ef, k⟩⟩
/-- {} whose keys will be tuples -/
def eDictT : Df := fun env => some (.dict [(.bool true, .none)], env)
theorem de_dictT {pos : Pos} : PE X (.Dict [] [] pos) (tN (X.kg Tb) eDictT) := PEi pe_dnewT fun σ H Q ⟨B, F, env, d, env', S, ef, k⟩ => by
  cases ef
  exact fun p hp => KN.at_new (K := X.kg Tb) k S hp (.inr ⟨[], [], rfl, upd_same, .nil⟩)
end
end DL

/-! DLp: xs.pop(), xs.extend(ys), xs.index(y). -/
namespace DL
open PySem PySem.Spec PyProof.Rows L2
/-- what a method of a list tells and does -/
def OkMR (K : Fg) (r : V → List V → Hp → VK → Prop) (g : List D → List D → Option (D × List D)) : Prop := ∀ {F H : Hp} {p : Addr} {vs ws : List V} {ds xs : List D} {y : D} {ds' : List D} {Q : VK}, Lk F H → H p = some (.lst vs) → F p = none → DtA K F vs ds → DtA K F ws xs → g xs ds = some (y, ds') →
  (∀ v o, Dt K F v y → Own K F (upd H p o) p (.list ds') → Q v (upd H p o)) → r (.ref p) ws H Q
def eMethR (i : Nat) (g : List D → List D → Option (D × List D)) (os : List Opd) : Df := fun env => (ownL env[i]?).bind fun _ => (evs os env).bind fun r => (fzAll r.1).bind fun ds => (ownL r.2[i]?).bind fun ls => (g ds ls).bind fun z => (chgAt i (fun _ => some (.list z.2)) r.2).bind fun e => some (z.1, e)
section
variable {X : Cx} {Tb : TbT} {e a b : Expr} {es : List Expr} {pos apos cpos : Pos} {x name : Str} {id : String}
theorem chgAt_ow {i : Nat} {g : D → Option D} {env e : En} {d : D} (h : chgAt i g env = some e) (ow : IsOw env i d) : ∃ d' x, g d = some d' ∧ ((env[i]? = some (.ow d) ∧ x = .ow d') ∨ (env[i]? = some (.pw d) ∧ x = .pw d')) ∧ e = env.set i x := by
  obtain ⟨d0, d1, z, ow0, hg, hx, rfl⟩ := chgAt_inv h
  have : d0 = d := by
    rcases ow with o | o <;> rcases ow0 with o' | o' <;> rw [o] at o' <;> cases o' <;> rfl
  subst this
  exact ⟨d1, z, hg, hx, rfl⟩
theorem methR_le {K : Fg} {i : Nat} {r : V → List V → Hp → VK → Prop} {g : List D → List D → Option (D × List D)} {os : List Opd} {B : Bs} {F H : Hp} {σ : L2.St} {env env' : En} {d : D} {Q : VK} (hk : OkMR K r g) (S : Sl K B F H σ env) (ef : eMethR i g os env = some (d, env'))
    (k : ∀ v F' H', Sl K B F' H' σ env' → Sub F F' → Dt K F' v d → Q v H') : ∃ p vs, σ[i]? = some (some (.ref p)) ∧ H p = some (.lst vs) ∧ tAr K os σ H fun ws H1 => r (.ref p) ws H1 Q := by
  obtain ⟨ov, q0, ef⟩ := bd ef
  obtain ⟨⟨us, e1⟩, q1, ef⟩ := bd ef
  obtain ⟨ds, q2, ef⟩ := bd ef
  obtain ⟨ls, q4, ef⟩ := bd ef
  obtain ⟨⟨y, ls'⟩, q5, ef⟩ := bd ef
  obtain ⟨e2, q3, ef⟩ := bd ef
  cases ef
  obtain ⟨p, h1, h2, ⟨vs, h3, h4⟩, _⟩ := S.own i _ (ownL_inv q0)
  refine ⟨p, vs, h1, h3, B, F, env, us, e1, S, q1, fun ws F1 H1 S1 s1 ha1 => ?_⟩
  have ow := ownL_inv q4
  obtain ⟨d1, z, hg, hx, rfl⟩ := chgAt_ow q3 ow
  cases hg
  obtain ⟨p', g1, g2, ⟨vs', g3, g4⟩, _⟩ := S1.own i _ ow
  rw [h1] at g1; cases g1
  exact hk S1.fh g3 g2 g4 (fzAll_dt ha1 q2) q5 fun v o hv ho => k v F1 _ (S1.chg ow h1 hx ho) s1 hv
theorem de_lmR {i : Nat} {r : V → List V → Hp → VK → Prop} {g : List D → List D → Option (D × List D)} {os : List Opd} (slot : Slot "list" name id) (hty : typeOf (.builtin id) = pure (.type "method_descriptor")) (hm : MtR X id r) (hk : OkMR (X.kg Tb) r g)
    (ha : PA X (e :: es) (tAr (X.kg Tb) os)) (hN : X.N[i]? = some x := by rfl) (hv : Vis X.env.scope x := by first | exact Or.inl rfl | exact Or.inr (Or.inl rfl) | exact Or.inr (Or.inr rfl)) (hd : (x == ("__debug__" : Str)) = false := by decide) (hcd : (x == ("__classdict__" : Str)) = false := by decide)
    (hbase : attributeBase (.Name x pos) name X.env (eval (.Name x pos) X.env) = eval (.Name x pos) X.env := by rfl)
    (hfew : ((backTo cpos (starEach (e :: es) X.env)).all (fun x => !x.1) && (backToKw cpos (keywordEach [] X.env)).all (fun x => x.1.isSome) && decide ((e :: es).length + ([] : List Keyword).length + (if ([] : List Keyword).isEmpty then 0 else 1) < 30)) = true := by rfl)
    (hline : (apos.endLine == cpos.line) = true := by rfl) (hs : starEach (e :: es) X.env = (false, eval e X.env) :: starEach es X.env := by rfl) (hplain : (backTo cpos (starEach es X.env)).any (·.1) = false := by rfl) :
    PE X (.Call (.Attribute (.Name x pos) name apos) (e :: es) [] cpos) (tD (X.kg Tb) (eMethR i g os)) :=
  PEi (pe_bm PySem.F.plainAttrs_list slot hty hm (pe_var hN hv hd hcd) ha hbase hfew hline hs hplain) fun σ H Q ⟨B, F, env, d, env', S, ef, k⟩ => by
    obtain ⟨p, vs, h1, h3, t⟩ := methR_le hk S ef k
    exact ⟨_, h1, .inl ⟨rfl, vs, SqL.of h3⟩, t⟩
theorem de_lmR0 {i : Nat} {r : V → List V → Hp → VK → Prop} {g : List D → List D → Option (D × List D)} (slot : Slot "list" name id) (hty : typeOf (.builtin id) = pure (.type "method_descriptor")) (hm : MtR X id r) (hk : OkMR (X.kg Tb) r g)
    (hN : X.N[i]? = some x := by rfl) (hv : Vis X.env.scope x := by first | exact Or.inl rfl | exact Or.inr (Or.inl rfl) | exact Or.inr (Or.inr rfl)) (hd : (x == ("__debug__" : Str)) = false := by decide) (hcd : (x == ("__classdict__" : Str)) = false := by decide)
    (hbase : attributeBase (.Name x pos) name X.env (eval (.Name x pos) X.env) = eval (.Name x pos) X.env := by rfl) (hline : (apos.endLine == cpos.line) = true := by rfl) :
    PE X (.Call (.Attribute (.Name x pos) name apos) [] [] cpos) (tD (X.kg Tb) (eMethR i g [])) :=
  PEi (pe_bm0 PySem.F.plainAttrs_list slot hty hm (pe_var hN hv hd hcd) hbase hline) fun σ H Q ⟨B, F, env, d, env', S, ef, k⟩ => by
    obtain ⟨p, vs, h1, h3, B1, F1, env1, us, e1, S1, q1, t⟩ := methR_le hk S ef k
    refine ⟨_, h1, .inl ⟨rfl, vs, SqL.of h3⟩, ?_⟩
    cases q1
    exact t [] F1 H S1 (Sub.refl _) trivial
/-- xs.pop() -/
def gPop : List D → List D → Option (D × List D)
  | [], ds => (ds[ds.length - 1]?).bind fun y => some (y, ds.dropLast)
  | _, _ => none
theorem DtA.dropLast {K : Fg} {F : Hp} {vs : List V} {ds : List D} (t : DtA K F vs ds) : DtA K F vs.dropLast ds.dropLast := by
  rw [List.dropLast_eq_take, List.dropLast_eq_take, t.length]
  exact t.take _
theorem okm_pop {K : Fg} : OkMR K rPop gPop := fun {F H p vs ws ds xs y ds' Q} l hp np t tx e k => by
  unfold gPop at e
  split at e
  · obtain ⟨z, q, e⟩ := bd e
    cases e
    cases tx
    obtain ⟨v, h1, h2⟩ := t.get q
    exact ⟨p, vs, v, rfl, rfl, hp, by rw [t.length]; exact h1, k v _ h2 ⟨_, upd_same, t.dropLast⟩⟩
  · cases e
/-- xs.extend(ys) -/
def gExtend : List D → List D → Option (D × List D)
  | [.list zs], ds => if ds.length + zs.length ≤ 100000 then some (.none, ds ++ zs) else none
  | [.tuple zs], ds => if ds.length + zs.length ≤ 100000 then some (.none, ds ++ zs) else none
  | _, _ => none
theorem ext_tup (l : Addr) (items : Array Value) (n : Nat) (b : Addr) (items2 : Array Value) (n2 : Nat) (dd : Option Addr) (sl : Array (Option Value)) (hs0 : ¬(!items.isEmpty && Builtin.List.listTooLong (items.size + items2.size)) = true) (hs1 : items.size ≤ sizeLine) (hs2 : items.size + items2.size ≤ sizeLine + 1) :
    Meets (Builtin.«list.extend» ⟨[.ref l, .ref b], []⟩) (fun _ R s => s.heap.get? l = some { cls := .type "list", dict := none, data := .seq items n, slots := #[] } ∧ s.heap.get? b = some (tupO items2 n2 dd sl) ∧ R (.ok (.ret Value.none)) { s with heap := s.heap.update l (Obj.mapSeq fun x => x ++ items2), toks := s.toks }) :=
  .of_wp fun prog w A R s h => by
    obtain ⟨hp, g, d, tk, os⟩ := s; obtain ⟨hl, hb, h⟩ := h; have f1 := AutoSeq1.idx_int; have f2 := AutoSeq1.sub_tuple_tuple; have f3 := AutoSeq1.sub_list_list; have f4 := AutoSeq1.sub_tuple_list; have f5 := AutoSeq1.sub_list_tuple
    have hz' : (items ++ items2).size ≤ sizeLine + 1 := by rw [Array.size_append]; exact hs2
    wp_walk using (wpAny_updateSeq hl rfl (hz := hs1) (_hz' := hz')), AutoSeq1.wpAny_loadPart' hl, AutoSeq1.wpAny_loadPart' hb
    exact ⟨_, rfl, h⟩
def rExtends (K : Fr) : V → List V → Hp → VK → Prop := fun x vs H Q => rExtend x vs H Q ∨ ∃ l b xs zs, x = .ref l ∧ vs = [.ref b] ∧ H l = some (.lst xs) ∧ H b = some (.tup zs) ∧ xs.length + zs.length ≤ sizeLine ∧ Q .non (upd H l (.lst (xs ++ zs)))
theorem mt_extends : MtR X "list.extend" (rExtends X.K) := by
  intro pins s σ H x vs v us Q I rx rv h
  rcases h with h | h
  · exact mt_extend pins s σ H x vs v us Q I rx rv h
  obtain ⟨l, b, xs, zs, rfl, rfl, hH, hB, hz, q⟩ := h
  cases rx
  obtain ⟨u, rfl, ru⟩ := rv.one
  cases ru
  obtain ⟨z, its, n, r, hl, e⟩ := I.lstM hH
  obtain ⟨_, its2, r2, o2, e2, ec, m, ed⟩ := I.hok _ _ hB
  have hl2 := r2.length
  have hsz : its.toArray.size + its2.toArray.size ≤ sizeLine := by rw [List.size_toArray, List.size_toArray]; omega
  have hlong : ¬ (!its.toArray.isEmpty && Builtin.List.listTooLong (its.toArray.size + its2.toArray.size)) = true := by
    rw [notLongL hsz, Bool.and_false]
    exact Bool.false_ne_true
  have e2' : s.heap.get? b = some (tupO its2.toArray m o2.dict o2.slots) := by
    rw [e2]
    obtain ⟨c, d, dt, sl⟩ := o2
    dsimp only at ec ed
    rw [ec, ed]
  refine call_meets F.slot_list_extend ⟨_, e, rfl⟩ F.entry_list_extend (F.args_list_extend_2 _ _) (ext_tup l its.toArray n b its2.toArray m o2.dict o2.slots hlong (by rw [List.size_toArray]; omega) (by omega)) ⟨e, e2', ?_⟩
  refine ⟨.non, _, I.lset (its' := its ++ its2) hH e (by simp) (r.append r2) ?_, rfl, q⟩
  rw [List.length_append]
  omega
theorem okm_extend {K : Fg} : OkMR K (rExtends K.fr) gExtend := fun {F H p vs ws ds xs y ds' Q} l hp np t tx e k => by
  unfold gExtend at e
  split at e
  · split at e
    · rename_i hl
      cases e
      obtain ⟨v, rfl, hv⟩ := tx.one
      cases hv with
      | lst hf ht => exact .inl ⟨p, _, vs, _, rfl, rfl, hp, l.lst hf, by rw [t.length, ht.length]; exact Nat.le_trans hl (by decide), k _ _ .non ⟨_, upd_same, t.append ht⟩⟩
    · cases e
  · split at e
    · rename_i hl
      cases e
      obtain ⟨v, rfl, hv⟩ := tx.one
      cases hv with
      | tup hf ht => exact .inr ⟨p, _, vs, _, rfl, rfl, hp, l.tup hf, by rw [t.length, ht.length]; exact Nat.le_trans hl (by decide), k _ _ .non ⟨_, upd_same, t.append ht⟩⟩
    · cases e
  · cases e
/-- xs.index(y), it is there -/
def idxOf (ds : List D) (d : D) : Option Nat := ds.findIdx? fun z => PyData.eqv z d
def gIndex : List D → List D → Option (D × List D)
  | [d], ds => if (noDct d && SeqAt.shaped d && (noDcts ds && SeqAt.shaped (.list ds))) = true then (idxOf ds d).bind fun j => some (.int (j : Nat), ds) else none
  | _, _ => none
theorem upd_id {H : Hp} {p : Addr} {o : HO} (h : H p = some o) : upd H p o = H := funext fun a => by
  by_cases e : a = p
  · subst e; rw [upd_same, h]
  · rw [upd_ne e]
theorem okm_index {K : Fg} : OkMR K (rIndexD K.fr) gIndex := fun {F H p vs ws ds xs y ds' Q} l hp np t tx e k => by
  unfold gIndex at e
  split at e
  · rename_i d
    split at e
    · rename_i h
      obtain ⟨j, q, e⟩ := bd e
      cases e
      simp only [Bool.and_eq_true] at h
      obtain ⟨v, rfl, hv⟩ := tx.one
      have q' := List.findIdx?_eq_some_iff_getElem.mp q
      obtain ⟨hj, e1, e2⟩ := q'
      have kk := k (.int (j : Nat)) (.lst vs) (.int _) ⟨vs, upd_same, t⟩
      rw [upd_id hp] at kk
      refine ⟨p, v, d, ds, j, ds[j], rfl, rfl, .lst (SqL.of hp) (t.dp l h.2.1), hv.dp l h.1.1, h.2.2, h.1.2, List.getElem?_eq_getElem hj, e1, fun m z' hm hz => ?_, kk⟩
      obtain ⟨hm', rfl⟩ := List.getElem?_eq_some_iff.mp hz
      simpa using e2 m hm
    · cases e
  · cases e
theorem de_pop {i : Nat} (hN : X.N[i]? = some x := by rfl) (hv : Vis X.env.scope x := by first | exact Or.inl rfl | exact Or.inr (Or.inl rfl) | exact Or.inr (Or.inr rfl)) (hd : (x == ("__debug__" : Str)) = false := by decide) (hcd : (x == ("__classdict__" : Str)) = false := by decide)
    (hbase : attributeBase (.Name x pos) "pop" X.env (eval (.Name x pos) X.env) = eval (.Name x pos) X.env := by rfl) (hline : (apos.endLine == cpos.line) = true := by rfl) :
    PE X (.Call (.Attribute (.Name x pos) "pop" apos) [] [] cpos) (tD (X.kg Tb) (eMethR i gPop [])) := de_lmR0 PySem.F.slot_list_pop PySem.F.type_list_pop mt_pop okm_pop hN hv hd hcd hbase hline
end
end DL

/-! DLq: a dict is walked: it is locked when the walk begins, and unlocked behind. -/
namespace DL
open PySem PySem.Spec PyProof.Rows L2
def Bs.lock (B : Bs) (d : Addr) (od : Obj) (u : HO) : Bs := { B with L := (d, od, u) :: B.L }
theorem IsDct.ntc {u : HO} (h : IsDct u) : ¬ TC u := by cases u <;> first | exact h.elim | exact fun z => z
theorem IsDct.ne {u : HO} (h : IsDct u) (o : Obj) (v : HO) : u ≠ .frz o v := by rintro rfl; exact h.elim
section
variable {K : Fg} {B : Bs} {F H : Hp} {σ : L2.St} {env : En} {d : Addr} {od : Obj} {u : HO}
theorem Sl.notLocked (S : Sl K B F H σ env) (hd : H d = some u) (dc : IsDct u) : ∀ w, (d, w) ∉ B.L := fun w hw => by
  have h9 : H d = _ := (S.lc _ hw).1
  rw [hd] at h9; cases h9
  exact dc
theorem Sl.lock (S : Sl K B F H σ env) (hf : F d = some u) (hd : H d = some u) (dc : IsDct u) (od : Obj) : Sl K (B.lock d od u) F (upd H d (.frz od u)) σ env := by
  refine ⟨fun a o e => ?_, S.len, S.fz, fun i x e => ?_, S.ap, S.pm, S.f0, S.nw, fun p o a b c g9 => ?_, fun q hq => ?_, fun q hq => ?_, fun a ob w e h => ?_, fun i s x e => by
    obtain ⟨v, L, g1, g2, g3, g4⟩ := S.tr i s x e
    refine ⟨v, L, g1, g2, g3, fun q hq => ⟨?_, (g4 q hq).2⟩⟩
    have ne : q.1 ≠ d := fun z => by
      have := (g4 q hq).2
      rw [z, hf] at this; cases this; exact dc
    rw [upd_ne ne]; exact (g4 q hq).1, S.mr, fun a g => ⟨by
      by_cases z : a = d
      · subst z; rw [upd_same]; exact fun z => nomatch z
      · rw [upd_ne z]; exact (S.gv a g).1, (S.gv a g).2⟩, fun a ks h => by
      by_cases z : a = d
      · subst z; rw [upd_same] at h; cases h
      · rw [upd_ne z] at h; exact S.kt a ks h, ⟨tabs_chg S.tb.now hd dc.ntc, S.tb.at0, S.tb.nf⟩⟩
  rotate_right
  · by_cases z : a = d
    · subst z
      rw [hf] at e; cases e
      rw [upd_same] at h; cases h
      exact .inl List.mem_cons_self
    · rw [upd_ne z] at h
      rcases S.lk a ob w e h with g | ⟨g1, g2, g3, g8⟩
      · exact .inl (List.mem_cons_of_mem _ g)
      · refine .inr ⟨g1, g2, fun w hw => ?_, g8⟩
        rcases List.mem_cons.mp hw with e | hw
        · cases e; exact z rfl
        · exact g3 w hw
  · by_cases z : a = d
    · subst z; rw [hf] at e; cases e; exact .inr (.inl ⟨dc, od, upd_same⟩)
    · rw [upd_ne z]; exact S.fh a o e
  · obtain ⟨p, h1, h2, h3, h4⟩ := S.own i x e
    have ne : p ≠ d := by rintro rfl; rw [h2] at hf; cases hf
    exact ⟨p, h1, h2, h3.mono (Sub.refl _) fun v hv => by rw [upd_ne ne]; exact hv, h4⟩
  · have ne : p ≠ d := by rintro rfl; exact c _ List.mem_cons_self
    rw [upd_ne ne]
    exact S.kp p o a b (fun w hw => c w (List.mem_cons_of_mem _ hw)) g9
  · rcases List.mem_cons.mp hq with rfl | hq
    · exact ⟨upd_same, hf⟩
    · obtain ⟨g1, g2⟩ := S.lc q hq
      have ne : q.1 ≠ d := fun z => by rw [z, hd] at g1; cases g1; exact dc
      exact ⟨by rw [upd_ne ne]; exact g1, g2⟩
  · obtain ⟨g1, g2, g3⟩ := S.hx q hq
    have ne : q.1 ≠ d := fun z => by rw [z, hf] at g2; cases g2
    exact ⟨by rw [upd_ne ne]; exact g1, g2, g3⟩
theorem Sl.unlock (S : Sl K (B.lock d od u) F H σ env) (nl : ∀ w, (d, w) ∉ B.L) (kd : ∀ o, B.H0 d = some o → (∀ j, (j, d) ∉ B.M) → ¬ B.G d → o = u) : Sl K B F (upd H d u) σ env ∧ H d = some (.frz od u) := by
  obtain ⟨hd, hf⟩ : H d = some (.frz od u) ∧ F d = some u := S.lc (d, od, u) List.mem_cons_self
  refine ⟨⟨fun a o e => ?_, S.len, S.fz, fun i x e => ?_, S.ap, S.pm, S.f0, S.nw, fun p o a b c g9 => ?_, fun q hq => ?_, fun q hq => ?_, fun a ob w e h => ?_, fun i s x e => by
    obtain ⟨v, L, g1, g2, g3, g4⟩ := S.tr i s x e
    refine ⟨v, L, g1, g2, g3, fun q hq => ⟨?_, (g4 q hq).2⟩⟩
    have ne : q.1 ≠ d := fun z => by
      have := (g4 q hq).1
      rw [z, hd] at this
      exact g2.nz q hq _ _ (Option.some.inj this).symm
    rw [upd_ne ne]; exact (g4 q hq).1, S.mr, fun a g => ⟨by
      by_cases z : a = d
      · subst z; rw [upd_same]; exact fun z => nomatch z
      · rw [upd_ne z]; exact (S.gv a g).1, (S.gv a g).2⟩, fun a ks h => by
      by_cases z : a = d
      · subst z; rw [upd_same] at h; rw [hf]; exact h
      · rw [upd_ne z] at h; exact S.kt a ks h, ⟨tabs_chg S.tb.now hd (fun z => z), S.tb.at0, S.tb.nf⟩⟩, hd⟩
  rotate_right
  · by_cases z : a = d
    · subst z
      rw [hf] at e; cases e
      rw [upd_same] at h
      exact absurd (Option.some.inj h) frz_ne
    · rw [upd_ne z] at h
      rcases S.lk a ob w e h with g | ⟨g1, g2, g3, g8⟩
      · rcases List.mem_cons.mp g with e | g
        · cases e; exact absurd rfl z
        · exact .inl g
      · exact .inr ⟨g1, g2, fun w hw => g3 w (List.mem_cons_of_mem _ hw), g8⟩
  · by_cases z : a = d
    · subst z; rw [hf] at e; cases e; exact .inl upd_same
    · rw [upd_ne z]; exact S.fh a o e
  · obtain ⟨p, h1, h2, h3, h4⟩ := S.own i x e
    have ne : p ≠ d := by rintro rfl; rw [h2] at hf; cases hf
    exact ⟨p, h1, h2, h3.mono (Sub.refl _) fun v hv => by rw [upd_ne ne]; exact hv, h4⟩
  · by_cases z : p = d
    · subst z; rw [upd_same, kd o a b g9]
    · rw [upd_ne z]
      refine S.kp p o a b (fun w hw => ?_) g9
      rcases List.mem_cons.mp hw with e | hw
      · cases e; exact z rfl
      · exact c w hw
  · obtain ⟨g1, g2⟩ := S.lc q (List.mem_cons_of_mem _ hq)
    have ne : q.1 ≠ d := fun z => nl q.2 (by rw [← z]; exact hq)
    exact ⟨by rw [upd_ne ne]; exact g1, g2⟩
  · obtain ⟨g1, g2, g3⟩ := S.hx q hq
    have ne : q.1 ≠ d := fun z => by rw [z, hf] at g2; cases g2
    exact ⟨by rw [upd_ne ne]; exact g1, g2, g3⟩
end

/-! ### behind it the lock may be taken away -/
def Un (X : Cx) (H : Hp) (Q : Hp → Prop) : Prop := Q H ∨ ∃ d od u, H d = some (.frz od u) ∧ (∀ o' u', X.H_0 d ≠ some (.frz o' u')) ∧ Q (upd H d u)
def tUnl (X : Cx) (t : TS) : TS := fun D σ H => t ⟨fun σ' H' => Un X H' (D.nx σ'), fun v H' => Un X H' (D.rt v), fun σ' H' => Un X H' (D.bk σ'), fun σ' H' => Un X H' (D.ct σ')⟩ σ H
def tUnlE (X : Cx) (t : TE) : TE := fun σ H Q => t σ H fun v H' => Un X H' (Q v)
section
variable {X : Cx} {Tb : TbT}
theorem Un.inv {pins : List (Addr × Obj)} {σ : L2.St} {H : Hp} {s : Shared} {Q : Hp → Prop} (I : Inv X pins σ H s) (h : Un X H Q) : ∃ H', Inv X pins σ H' s ∧ Q H' := by
  rcases h with h | ⟨d, od, u, e, n, h⟩
  · exact ⟨H, I, h⟩
  · exact ⟨_, I.unlock e n, h⟩
theorem ps_unl {st : Stmt} {t : TS} (h : PS X st t) : PS X st (tUnl X t) := by
  refine ⟨fun pins s σ H D I hw => ?_⟩
  refine thn (h.run pins s σ _ _ I hw) fun f s1 q => ?_
  cases f with
  | next => obtain ⟨σ', H', I2, q⟩ := q; obtain ⟨H2, I3, q⟩ := Un.inv I2 q; exact ⟨σ', _, I3, q⟩
  | brk => obtain ⟨σ', H', I2, q⟩ := q; obtain ⟨H2, I3, q⟩ := Un.inv I2 q; exact ⟨σ', _, I3, q⟩
  | cont => obtain ⟨σ', H', I2, q⟩ := q; obtain ⟨H2, I3, q⟩ := Un.inv I2 q; exact ⟨σ', _, I3, q⟩
  | ret v => obtain ⟨x, σ', H', I2, r, q⟩ := q; obtain ⟨H2, I3, q⟩ := Un.inv I2 q; exact ⟨x, σ', _, I3, r, q⟩
theorem pe_unl {e : Expr} {t : TE} (h : PE X e t) : PE X e (tUnlE X t) := by
  refine ⟨fun pins s σ H Q I hw => ?_⟩
  refine thn (h.run pins s σ _ _ I hw) fun v s1 ⟨x, H1, I2, r, q⟩ => ?_
  obtain ⟨H2, I3, q⟩ := Un.inv I2 q
  exact ⟨x, _, I3, r, q⟩

/-! ### for k in d -/
def iKeysG (X : Cx) (td : TE) : TI := fun σ H R => td σ H fun x H1 => ∃ d, x = .ref d ∧
  ((∃ kvs, (∃ o, H1 d = some (.frz o (.dK kvs)) ∧ R (Itk d o kvs) H1) ∨ (H1 d = some (.dK kvs) ∧ ∀ o, (∀ o' u', X.H_0 d ≠ some (.frz o' u')) → R (Itk d o kvs) (upd H1 d (.frz o (.dK kvs))))) ∨
   ∃ kvs, (∃ o, H1 d = some (.frz o (.dT kvs)) ∧ R (Itkt d o kvs) H1) ∨ (H1 d = some (.dT kvs) ∧ ∀ o, (∀ o' u', X.H_0 d ≠ some (.frz o' u')) → R (Itkt d o kvs) (upd H1 d (.frz o (.dT kvs)))))
variable {tg e : Expr} {td : TE} {apos cpos : Pos}
theorem pi_keysG (he : PE X e td) : PI X tg e (iKeysG X td) := by
  refine ⟨fun pins s σ H R I h => ?_⟩
  refine thn (he.run pins s σ H _ I h) fun u s1 ⟨x, H1, I1, rx, d, ex, q⟩ => ?_
  subst ex
  obtain rfl : u = Value.ref d := rx
  have goK : ∀ {H2 : Hp} {o : Obj} {kvs : List (Key × V)}, Inv X pins σ H2 s1 → H2 d = some (.frz o (.dK kvs)) → R (Itk d o kvs) H2 → wpAny (model X.prog X.w) X.A (pyIter (.ref d)) (PIE X pins σ tg R) X.xe s1 := fun {H2 o kvs} I2 hd q => by
    obtain ⟨hs, hgd, hx, es, ep, vs, hdt, hsz, kv, hm⟩ := I2.frzK hd
    refine iter_keys hs hgd hx hdt (pi_one (tk := s1.toks) I2 _ (turn_keys _ hdt) ⟨_, Heap.get?_push_size _ rfl, rfl, ?_⟩ q)
    rw [hsz] <;> rfl
  have goT : ∀ {H2 : Hp} {o : Obj} {kvs : List (List Key × V)}, Inv X pins σ H2 s1 → H2 d = some (.frz o (.dT kvs)) → R (Itkt d o kvs) H2 → wpAny (model X.prog X.w) X.A (pyIter (.ref d)) (PIE X pins σ tg R) X.xe s1 := fun {H2 o kvs} I2 hd q => by
    obtain ⟨hs, hgd, hx, es, ep, hdt, hsz, ent⟩ := I2.frzT hd
    refine iter_keys hs hgd hx hdt (pi_one (tk := s1.toks) I2 _ (turn_keysT _ hdt) ⟨_, Heap.get?_push_size _ rfl, rfl, ?_⟩ q)
    rw [hsz] <;> rfl
  rcases q with ⟨kvs, ⟨o, hd, q⟩ | ⟨hd, q⟩⟩ | ⟨kvs, ⟨o, hd, q⟩ | ⟨hd, q⟩⟩
  · exact goK I1 hd q
  · obtain ⟨od, I2⟩ := I1.lock hd trivial
    exact goK I2 upd_same (q od (I1.nofrz hd trivial))
  · exact goT I1 hd q
  · obtain ⟨od, I2⟩ := I1.lock hd trivial
    exact goT I2 upd_same (q od (I1.nofrz hd trivial))

/-! ### the reading -/
def WalksB (K : Fg) (B : Bs) (J : It) (F : Hp) (ds : List D) : Prop := ∀ {X : List (Addr × HO)} {F' H : Hp} {σ : L2.St} {env : En}, Sl K { B with X := X } F' H σ env → Sub F F' → ∀ i : Nat,
  (∀ d, ds[i]? = some d → J.go i H ∧ ∀ x H', J.yld i H x H' → ∃ F'', Sl K { B with X := X } F'' H' σ env ∧ Sub F' F'' ∧ Dt K F'' x d) ∧ (ds.length = i → J.stop i H)
def Opn (X : Cx) (B B' : Bs) : Prop := B' = B ∨ ∃ d od u, B' = B.lock d od u ∧ (∀ o' u', X.H_0 d ≠ some (.frz o' u')) ∧ (∀ w, (d, w) ∉ B.L) ∧ ∀ o, B.H0 d = some o → (∀ j, (j, d) ∉ B.M) → ¬ B.G d → o = u
theorem Opn.unl {B B' : Bs} {F H : Hp} {σ : L2.St} {env : En} (o : Opn X B B') (S : Sl (X.kg Tb) B' F H σ env) : Un X H fun H' => Sl (X.kg Tb) B F H' σ env ∧ ∀ p v, F p = none → H p = some v → H' p = some v := by
  rcases o with rfl | ⟨d, od, u, rfl, n, nl, kd⟩
  · exact .inl ⟨S, fun p v _ h => h⟩
  · have hf : F d = some u := (S.lc (d, od, u) List.mem_cons_self).2
    obtain ⟨S', e⟩ := S.unlock nl kd
    exact .inr ⟨d, od, u, e, n, S', fun p v h1 h2 => by
      have ne : p ≠ d := by rintro rfl; rw [hf] at h1; cases h1
      rw [upd_ne ne]; exact h2⟩
def iDL (X : Cx) (Tb : TbT) (f : If) : TI := fun σ H R => ∃ B F env ds env', Sl (X.kg Tb) B F H σ env ∧ f env = some (ds, env') ∧ ∀ J F' H' B', Sl (X.kg Tb) B' F' H' σ env' → Sub F F' → Opn X B B' → WalksB (X.kg Tb) B' J F' ds → R J H'
theorem di_lift {f : If} (h : PI X tg e (iD (X.kg Tb) f)) : PI X tg e (iDL X Tb f) := PIi h fun σ H R ⟨B, F, env, ds, env', S, ef, k⟩ => ⟨B, F, env, ds, env', S, ef, fun J F' H' S' s W => k J F' H' B S' s (.inl rfl) fun {X F' H σ env} S s i => W S s i⟩
theorem Un.imp {H : Hp} {P Q : Hp → Prop} (h : Un X H P) (k : ∀ H', P H' → Q H') : Un X H Q := by
  rcases h with h | ⟨d, od, u, e, n, h⟩
  · exact .inl (k _ h)
  · exact .inr ⟨d, od, u, e, n, k _ h⟩
theorem EndOk.unl {wh : Wh} {B B' : Bs} {F : Hp} {E : Ends} {r : Rs} (h : EndOk (X.kg Tb) wh B F E r) (o : Opn X B B') (hx : ∀ x e, r ≠ .xx x e) : EndOk (X.kg Tb) wh B' F ⟨fun σ' H' => Un X H' (E.nx σ'), fun v H' => Un X H' (E.rt v), fun σ' H' => Un X H' (E.bk σ'), fun σ' H' => Un X H' (E.ct σ')⟩ r := by
  have h0 : B'.H0 = B.H0 := by rcases o with rfl | ⟨d, od, u, rfl, _⟩ <;> rfl
  cases r with
  | nx e => exact fun σ' F' H' S s' => (o.unl S).imp fun H2 ⟨S2, _⟩ => h σ' F' H2 S2 s'
  | bk e => exact fun σ' F' H' S s' => (o.unl S).imp fun H2 ⟨S2, _⟩ => h σ' F' H2 S2 s'
  | ct e => exact fun σ' F' H' S s' => (o.unl S).imp fun H2 ⟨S2, _⟩ => h σ' F' H2 S2 s'
  | rt d e => exact fun v σ' F' H' S s' hd => (o.unl S).imp fun H2 ⟨S2, _⟩ => h v σ' F' H2 S2 s' hd
  | rn d e => exact fun p σ' F' H' S s' n n0 ho => (o.unl S).imp fun H2 ⟨S2, kk⟩ => h p σ' F' H2 S2 s' n (by rw [← h0]; exact n0) (ho.mono (Sub.refl _) fun v hv => kk p v n hv)
  | rm s0 d e => exact fun v L σ' F' H' S s' t nd hL => (o.unl S).imp fun H2 ⟨S2, kk⟩ => h v L σ' F' H2 S2 s' t nd fun q hq => ⟨kk q.1 q.2 (hL q hq).2.1 (hL q hq).1, (hL q hq).2.1, by rw [← h0]; exact (hL q hq).2.2⟩
  | xx x e => exact absurd rfl (hx x e)
end
end DL

/-! DLr: loops and comprehensions over dicts. -/
namespace DL
open PySem L2
section
variable {X : Cx} {Tb : TbT} {tg iter : Expr} {body : List Stmt} {pos : Pos}
theorem dS_forL {wh : Wh} {t : Tg} {ts : List Nat} {it : If} {f : Sf} (hp : PassesOwn (model X.prog X.w) X.A X.env X.xe) (hc : X.calm = true) (hi : PI X tg iter (iDL X Tb it)) (hg : PG X tg (gD (X.kg Tb) t ts)) (hb : PSs X body (tS (X.kg Tb) wh f))
    (hs : ∀ x, foldedSetIterable iter X.env x = pure x := by intro _; rfl) : PS X (.For tg iter body [] pos) (tS (X.kg Tb) wh (sFor t it (noX f))) := PSi (ps_unl (ps_for hp hc hi hg (ds_noX hb) hs)) fun E σ H ⟨B, F, env, r, S, ef, k⟩ => by
  obtain ⟨⟨ds, e1⟩, q, ef⟩ := bd ef
  refine ⟨B, F, env, ds, e1, S, q, fun J F1 H1 B' S1 s1 op W => ?_⟩
  have k := k.unl op fun x e z => by subst z; exact forD_noX ef
  refine ⟨fun i m σ H => m = ds.length - i ∧ i ≤ ds.length ∧ ∃ F2 env2, Sl (X.kg Tb) B' F2 H σ env2 ∧ Sub F1 F2 ∧ forD t (noX f) (ds.drop i) env2 = some r, ⟨ds.length, by simp, Nat.zero_le _, F1, e1, S1, Sub.refl _, ef⟩, ?_⟩
  rintro i m σ2 H2 ⟨rfl, hi, F2, env2, S2, s2, ef2⟩
  obtain ⟨w1, w2⟩ := W (X := B'.X) S2 s2 i
  cases hd : ds[i]? with
  | none =>
    have hl : ds.length ≤ i := List.getElem?_eq_none_iff.mp hd
    rw [List.drop_eq_nil_of_le hl] at ef2
    cases ef2
    exact .inl ⟨w2 (Nat.le_antisymm hl hi), k σ2 F2 H2 S2 (s1.trans s2)⟩
  | some d =>
    have hlt : i < ds.length := (List.getElem?_eq_some_iff.mp hd).1
    rw [drop_get hd] at ef2
    obtain ⟨e3, q3, ef2⟩ := bd (show (t d env2).bind (fun e1 => (noX f e1).bind fun r => match r with
      | .nx e => forD t (noX f) (ds.drop (i + 1)) e
      | .ct e => forD t (noX f) (ds.drop (i + 1)) e
      | .bk e => some (.nx e)
      | .rt d e => some (.rt d e)
      | .rn d e => some (.rn d e)
      | .rm s d e => some (.rm s d e)
      | .xx x e => some (.xx x e)) = some r from ef2)
    obtain ⟨r1, q4, ef2⟩ := bd ef2
    obtain ⟨go, yl⟩ := w1 d hd
    refine .inr ⟨go, fun σ' H' => ∃ F2 env2, Sl (X.kg Tb) B' F2 H' σ' env2 ∧ Sub F1 F2 ∧ forD t (noX f) (ds.drop (i + 1)) env2 = some r, fun σ' H' ⟨F3, en3, S3, s3, e3⟩ => ⟨ds.length - (i + 1), by omega, rfl, hlt, F3, en3, S3, s3, e3⟩, fun x H' y => ?_⟩
    obtain ⟨F3, S3, s3, hx⟩ := yl x H' y
    refine ⟨B', F3, env2, d, e3, S3, hx, q3, fun σ4 F4 H4 S4 s4 _ => ⟨B', F4, e3, r1, S4, q4, ?_⟩⟩
    have sub : Sub F F4 := ((s1.trans s2).trans s3).trans s4
    have sub1 : Sub F1 F4 := (s2.trans s3).trans s4
    cases r1 with
    | nx e => exact fun σ' F' H' S' s' => ⟨F', e, S', sub1.trans s', ef2⟩
    | ct e => exact fun σ' F' H' S' s' => ⟨F', e, S', sub1.trans s', ef2⟩
    | bk e => cases ef2; exact fun σ' F' H' S' s' => k σ' F' H' S' (sub.trans s')
    | rt d e => cases ef2; exact fun v σ' F' H' S' s' => k v σ' F' H' S' (sub.trans s')
    | rn d e => cases ef2; exact fun v σ' F' H' S' s' => k v σ' F' H' S' (sub.trans s')
    | rm s0 d e => cases ef2; exact fun v L σ' F' H' S' s' => k v L σ' F' H' S' (sub.trans s')
    | xx x e => cases ef2; exact fun cls dd σ' F' H' S' s' => k cls dd σ' F' H' S' (sub.trans s')
end
theorem lcL_le {X : Cx} {Tb : TbT} {vs ts : List Nat} {t : Tg} {it : If} {c : Bf} {f : Df} (hs : ∀ j ∈ ts, j ∈ vs) : ∀ σ H Q, tN (X.kg Tb) (eLc vs t it c f) σ H Q → tLc (iDL X Tb it) (gD (X.kg Tb) t ts) (tT (X.kg Tb) c) (tD (X.kg Tb) f) vs σ H (fun v H' => Un X H' (Q v)) := fun σ H Q ⟨B, F, env, d, env', S, ef, k⟩ => by
  obtain ⟨⟨ds, e1⟩, q1, ef⟩ := bd ef
  by_cases hlen : ds.length < 100000
  rotate_left
  · rw [if_neg hlen] at ef; cases ef
  rw [if_pos hlen] at ef
  obtain ⟨e2, q2, ef⟩ := bd ef
  obtain ⟨⟨all, ez⟩, q3, ef⟩ := bd ef
  cases ef
  obtain ⟨hv, rfl⟩ := wipeE_inv q2
  refine ⟨B, F, env, ds, e1, S, q1, fun J F1 H1 B' S1 s1 op W Dl hD => ?_⟩
  have nX := S1.neX hD
  refine ⟨fun i m H => m = ds.length - i ∧ i ≤ ds.length ∧ ∃ F2 en vacc acc rest, Sl (X.kg Tb) (B'.hold Dl (.lst vacc)) F2 H (L2.wipe σ vs) en ∧ Sub F1 F2 ∧ DtA (X.kg Tb) F2 vacc acc ∧ vacc.length ≤ i ∧ lcGo vs t c f (ds.drop i) en = some (rest, ez) ∧ acc ++ rest = all,
    ⟨ds.length, by simp, Nat.zero_le _, F1, _, [], [], all, ?_, Sub.refl _, .nil, Nat.le_refl _, q3, rfl⟩, ?_⟩
  · refine ((S1.wipe hv).laid hD).hold upd_same (S1.fh.none hD) (S1.fresh hD) fun i d o => (S1.wipe hv).neOw hD o
  rintro i m H2 ⟨rfl, hi, F2, en, vacc, acc, rest, S2, s2, hda, hvl, e3, hall⟩
  obtain ⟨w1, w2⟩ := W (X := (Dl, .lst vacc) :: B'.X) S2 s2 i
  cases hd : ds[i]? with
  | none =>
    have hl : ds.length ≤ i := List.getElem?_eq_none_iff.mp hd
    rw [List.drop_eq_nil_of_le hl] at e3
    cases e3
    rw [List.append_nil] at hall
    subst hall
    refine .inl ⟨w2 (Nat.le_antisymm hl hi), ?_⟩
    obtain ⟨h1, h2, h3, h4⟩ := S2.held
    obtain ⟨S3, ow3⟩ := S1.back hv S2.unhold s2
    have h0 : B'.H0 = B.H0 := by rcases op with rfl | ⟨d, od, u, rfl, _⟩ <;> rfl
    have hX : B'.X = B.X := by rcases op with rfl | ⟨d, od, u, rfl, _⟩ <;> rfl
    refine (op.unl S3).imp fun H4 ⟨S4, kk⟩ => ?_
    exact k Dl F2 H4 S4 (s1.trans s2) h2 (by rw [← h0]; exact h3) (fun j d o => by
      obtain ⟨a, b⟩ := ow3 j d o
      rw [← b]
      exact h4 j d a) (by rw [← hX]; exact nX) ⟨vacc, kk _ _ h2 h1, hda⟩
  | some d =>
    have hlt : i < ds.length := (List.getElem?_eq_some_iff.mp hd).1
    rw [drop_get hd] at e3
    obtain ⟨e4, q4, e3⟩ := bd (show (t d en).bind (fun e1 => (c e1).bind fun b => if b.1 = true then (f b.2).bind fun x => (wipeE vs x.2).bind fun e => (lcGo vs t c f (ds.drop (i + 1)) e).bind fun r => some (x.1 :: r.1, r.2) else (wipeE vs b.2).bind fun e => lcGo vs t c f (ds.drop (i + 1)) e) = some (rest, ez) from e3)
    obtain ⟨⟨b, e5⟩, q5, e3⟩ := bd e3
    obtain ⟨go, yl⟩ := w1 d hd
    refine .inr ⟨go, fun H => ∃ F2 en vacc acc rest, Sl (X.kg Tb) (B'.hold Dl (.lst vacc)) F2 H (L2.wipe σ vs) en ∧ Sub F1 F2 ∧ DtA (X.kg Tb) F2 vacc acc ∧ vacc.length ≤ i + 1 ∧ lcGo vs t c f (ds.drop (i + 1)) en = some (rest, ez) ∧ acc ++ rest = all, fun H' hN => ⟨ds.length - (i + 1), by omega, rfl, hlt, hN⟩, fun x H' y => ?_⟩
    obtain ⟨F3, S3, s3, hx⟩ := yl x H' y
    refine ⟨B'.hold Dl (.lst vacc), F3, en, d, e4, S3, hx, q4, fun σ4 F4 H4 S4 s4 but => ⟨wipe_but but hs, B'.hold Dl (.lst vacc), F4, e4, b, e5, S4, q5, fun F5 H5 S5 s5 => ?_⟩⟩
    have hw := wipe_but but hs
    have s25 : Sub F2 F5 := (s3.trans s4).trans s5
    cases b with
    | false =>
      rw [if_neg Bool.false_ne_true] at e3
      refine iteF ?_
      obtain ⟨e6, q6, e3⟩ := bd e3
      obtain ⟨hv6, rfl⟩ := wipeE_inv q6
      exact ⟨F5, _, vacc, acc, rest, hw ▸ S5.wipe hv6, s2.trans s25, hda.mono s25, Nat.le_succ_of_le hvl, e3, hall⟩
    | true =>
      rw [if_pos rfl] at e3
      refine iteT ?_
      obtain ⟨⟨x', e6⟩, q6, e3⟩ := bd e3
      obtain ⟨e7, q7, e3⟩ := bd e3
      obtain ⟨⟨r1, ez'⟩, q8, e3⟩ := bd e3
      cases e3
      obtain ⟨hv7, rfl⟩ := wipeE_inv q7
      refine ⟨B'.hold Dl (.lst vacc), F5, e5, x', e6, S5, q6, fun v F6 H6 S6 s6 hv6 => ?_⟩
      obtain ⟨g1, g2, g3, g4⟩ := S6.held
      refine ⟨vacc, g1, Nat.lt_of_le_of_lt (Nat.le_trans hvl (Nat.le_of_lt hlt)) (Nat.lt_of_lt_of_le hlen (by decide)), ?_⟩
      exact ⟨F6, _, vacc ++ [v], acc ++ [x'], r1, hw ▸ (S6.rehold (u := .lst (vacc ++ [v])) nX).wipe hv7, s2.trans (s25.trans s6), (hda.mono (s25.trans s6)).append (.cons hv6 .nil), by rw [List.length_append]; exact Nat.succ_le_succ hvl, q8, by rw [List.append_assoc]; exact hall⟩
section
variable {X : Cx} {Tb : TbT} {elt tg iter : Expr} {ifs : List Expr} {scope : Scope} {own : List (Str × Nat)} {pos : Pos}
theorem de_lcL {t : Tg} {ts : List Nat} {it : If} {c : Bf} {f : Df} (hc : X.calm = true) (hN : X.N.Nodup) (hs' : ∀ j ∈ ts, j ∈ own.map (·.2)) (hi : PI X tg iter (iDL X Tb it)) (ok : BlkOk X.N X.env.scope scope own)
    (hg : ∀ (s : Shared) (H : Hp) (C : Addr) (cl : List (Str × Addr)) (fp : List Addr), PG (X.blk s H scope (compEnvC scope cl C X.env) fp) tg (gD (X.kg Tb) t ts)) (ht : ∀ (s : Shared) (H : Hp) (C : Addr) (cl : List (Str × Addr)) (fp : List Addr), PTs (X.blk s H scope (compEnvC scope cl C X.env) fp) ifs (tT (X.kg Tb) c))
    (he : ∀ (s : Shared) (H : Hp) (C : Addr) (cl : List (Str × Addr)) (fp : List Addr), PE (X.blk s H scope (compEnvC scope cl C X.env) fp) elt (tD (X.kg Tb) f)) (hs : ∀ x, foldedSetIterable iter X.env x = pure x := by intro _; rfl) :
    PE X (.ListComp elt [⟨tg, iter, ifs, 0⟩] scope pos) (tN (X.kg Tb) (eLc (own.map (·.2)) t it c f)) := PEi (pe_unl (pe_lc hc hN hi ok hg ht he hs)) (lcL_le hs')
theorem dS_setLcL {wh : Wh} {i : Nat} {y : Str} {py spos : Pos} {t : Tg} {ts : List Nat} {it : If} {c : Bf} {f : Df} (hc : X.calm = true) (hN : X.N.Nodup) (hs' : ∀ j ∈ ts, j ∈ own.map (·.2)) (hsw : swapsWith (.ListComp elt [⟨tg, iter, ifs, 0⟩] scope pos) (some (.Name y py)) spos.line X.env = pure true) (hi : PI X tg iter (iDL X Tb it)) (ok : BlkOk X.N X.env.scope scope own)
    (hg : ∀ (s : Shared) (H : Hp) (C : Addr) (cl : List (Str × Addr)) (fp : List Addr), PG (X.blk s H scope (compEnvC scope cl C X.env) fp) tg (gD (X.kg Tb) t ts)) (ht : ∀ (s : Shared) (H : Hp) (C : Addr) (cl : List (Str × Addr)) (fp : List Addr), PTs (X.blk s H scope (compEnvC scope cl C X.env) fp) ifs (tT (X.kg Tb) c))
    (he : ∀ (s : Shared) (H : Hp) (C : Addr) (cl : List (Str × Addr)) (fp : List Addr), PE (X.blk s H scope (compEnvC scope cl C X.env) fp) elt (tD (X.kg Tb) f)) (hs : ∀ x, foldedSetIterable iter X.env x = pure x := by intro _; rfl)
    (hy : X.N[i]? = some y := by rfl) (hyl : X.env.scope.names.lookup y = some .local := by rfl) :
    PS X (.Assign [.Name y py] (.ListComp elt [⟨tg, iter, ifs, 0⟩] scope pos) spos) (tS (X.kg Tb) wh (sSetN i (eLc (own.map (·.2)) t it c f))) := PSi (ps_unl (ps_setLc hc hN hy hyl hsw hi ok hg ht he hs)) fun E σ H ⟨B, F, env, r, S, ef, k⟩ => lcL_le (X := X) hs' σ H (fun v H' => E.nx (σ.set i (some v)) H') (by
  obtain ⟨⟨d, e1⟩, q, ef⟩ := bd ef
  obtain ⟨e2, q2, ef⟩ := bd ef
  cases ef
  obtain ⟨hi', np, rfl⟩ := put_inv q2
  exact ⟨B, F, env, d, e1, S, q, fun p F' H' S' s' n n0 no nx ho => k _ F' H' (S'.setO hi' np n n0 no nx ho) s'⟩)
end
/-- a dict's keys -/
def iK (f : Df) : If := fun env => (f env).bind fun r => match r.1 with
  | .dict ((.bool true, .none) :: _) => none
  | .dict es => if plainTy (.dict es) = true then some (es.map (·.1), r.2) else none
  | _ => none
theorem DtK.nth {K : Fg} {F : Hp} : ∀ {kvs : List (Key × V)} {es : List (D × D)} {i : Nat} {x : D × D}, DtK K F kvs es → es[i]? = some x → ∃ k v, kvs[i]? = some (k, v) ∧ x.1 = kD k ∧ Dt K F v x.2
  | _, _, _, _, .nil, e => by simp at e
  | _, _, 0, _, .cons h _, e => by simp at e; subst e; exact ⟨_, _, rfl, rfl, h⟩
  | _, _, i + 1, x, .cons _ t, e => by
    obtain ⟨k, v, h1, h2⟩ := DtK.nth (i := i) (x := x) t (by simpa using e)
    exact ⟨k, v, by simpa using h1, h2⟩
theorem kD_dt {K : Fg} {F : Hp} (k : Key) : Dt K F (kV k) (kD k) := by
  cases k with
  | inl i => exact .int i
  | inr x => exact .str x
/-- it stays locked -/
def Stays (B : Bs) (d : Addr) (od : Obj) (u : HO) : Prop := (d, od, u) ∈ B.L ∨ (B.H0 d = some (.frz od u) ∧ (∀ j, (j, d) ∉ B.M) ∧ (∀ w, (d, w) ∉ B.L) ∧ ¬ B.G d)
theorem Stays.at {K : Fg} {B : Bs} {F H : Hp} {σ : L2.St} {env : En} {d : Addr} {od : Obj} {u : HO} {X : List (Addr × HO)} (h : Stays B d od u) (S : Sl K { B with X := X } F H σ env) : H d = some (.frz od u) := by
  rcases h with h | ⟨h1, h2, h3, h4⟩
  · exact (S.lc _ h).1
  · exact S.kp d _ h1 h2 h3 h4
theorem walks_keys {K : Fg} {B : Bs} {F : Hp} {d : Addr} {od : Obj} {kvs : List (Key × V)} {es : List (D × D)} (h : Stays B d od (.dK kvs)) (t : DtK K F kvs es) : WalksB K B (Itk d od kvs) F (es.map (·.1)) := fun {X F' H σ env} S s i => by
  have hd := h.at S
  refine ⟨fun x e => ?_, fun hl => ⟨hd, by rw [t.length]; rw [List.length_map] at hl; exact Nat.le_of_eq hl⟩⟩
  rw [List.getElem?_map] at e
  cases q : es[i]? with
  | none => rw [q] at e; cases e
  | some y =>
    rw [q] at e; cases e
    obtain ⟨k, v, h1, h2, _⟩ := t.nth q
    refine ⟨⟨hd, (List.getElem?_eq_some_iff.mp h1).1⟩, fun x H' y' => ?_⟩
    obtain ⟨rfl, k', v', h3, rfl⟩ := y'
    rw [h1] at h3; cases h3
    exact ⟨F', S, Sub.refl _, by dsimp only; rw [h2]; exact kD_dt k⟩
theorem Sl.opn {X : Cx} {Tb : TbT} {B : Bs} {F H : Hp} {σ : L2.St} {env : En} {d : Addr} {u : HO} (S : Sl (X.kg Tb) B F H σ env) (hf : F d = some u) (hd : H d = some u) (dc : IsDct u) (od : Obj) (n : ∀ o' u', X.H_0 d ≠ some (.frz o' u')) : Opn X B (B.lock d od u) :=
  .inr ⟨d, od, u, rfl, n, S.notLocked hd dc, fun o h1 h2 h3 => by
    have := S.kp d o h1 h2 (S.notLocked hd dc) h3
    rw [hd] at this
    exact (Option.some.inj this).symm⟩
section
variable {X : Cx} {Tb : TbT} {tg e : Expr} {apos cpos : Pos}
theorem di_keys {f : Df} (he : PE X e (tD (X.kg Tb) f)) : PI X tg e (iDL X Tb (iK f)) := PIi (pi_keysG he) fun σ H R ⟨B, F, env, ds, env', S, ef, k⟩ => by
  obtain ⟨⟨d, e1⟩, q, ef⟩ := bd ef
  refine ⟨B, F, env, d, e1, S, q, fun v F' H' S' s' hd => ?_⟩
  dsimp only at ef
  split at ef
  · cases ef
  · split at ef
    · rename_i es _ hp
      cases ef
      cases hd with
      | scr _ => cases hp
      | dt _ _ => cases hp
      | exc _ _ => cases hp
      | exf _ _ _ _ => cases hp
      | fn _ => cases hp
      | @dk a kvs _ hf t =>
        refine ⟨a, rfl, .inl ⟨kvs, ?_⟩⟩
        rcases S'.fh _ _ hf with g | ⟨_, ob, g⟩ | ⟨z, _⟩
        · exact .inr ⟨g, fun o n => k _ F' _ _ (S'.lock hf g trivial o) s' (S'.opn hf g trivial o n) (walks_keys (.inl List.mem_cons_self) t)⟩
        · exact .inl ⟨ob, g, k _ F' _ B S' s' (.inl rfl) (walks_keys (S'.lk _ _ _ hf g) t)⟩
        · cases z
    · cases ef
  · cases ef
end
end DL

/-! DLs: d.items() walked; sorted; dict of pairs. -/
namespace DL
open PySem PySem.Spec PyProof.Rows L2
/-! ### for k, v in d.items() -/
def iItemsG (X : Cx) (td : TE) : TI := fun σ H R => td σ H fun x H1 => ∃ d kvs, x = .ref d ∧ ((∃ o, H1 d = some (.frz o (.dK kvs)) ∧ R (Iti d o kvs) H1) ∨ (H1 d = some (.dK kvs) ∧ ∀ o, (∀ o' u', X.H_0 d ≠ some (.frz o' u')) → R (Iti d o kvs) (upd H1 d (.frz o (.dK kvs)))))
section
variable {X : Cx} {Tb : TbT} {tg e : Expr} {td : TE} {apos cpos : Pos} {elts : List Expr} {kk : Nat} {tpos : Pos}
theorem pi_itemsG (he : PE X e td) (hbase : attributeBase e "items" X.env (eval e X.env) = eval e X.env := by rfl) (hline : (apos.endLine == cpos.line) = true := by rfl) :
    PI X (.Tuple elts kk tpos) (.Call (.Attribute e "items" apos) [] [] cpos) (iItemsG X td) := by
  refine ⟨fun pins s σ H R I h => ?_⟩
  refine wpAny_Call_method (T := "dict") (id := "dict.items") hbase rfl hline F.plainAttrs_dict F.slot_dict_items F.type_dict_items (thn (he.run pins s σ H _ I h) fun u s1 ⟨x, H1, I1, rx, d, kvs, ex, q⟩ => ?_)
  subst ex
  obtain rfl : u = Value.ref d := rx
  obtain ⟨o, H2, I2, hd, q⟩ : ∃ o H2, Inv X pins σ H2 s1 ∧ H2 d = some (.frz o (.dK kvs)) ∧ R (Iti d o kvs) H2 := by
    rcases q with ⟨o, hd, q⟩ | ⟨hd, q⟩
    · exact ⟨o, H1, I1, hd, q⟩
    · obtain ⟨od, I2⟩ := I1.lock hd trivial
      exact ⟨od, _, I2, upd_same, q od (I1.nofrz hd trivial)⟩
  obtain ⟨hs, hgd, hx, es, ep, vs, hdt, hsz, kv, hm⟩ := I2.frzK hd
  have hl : kvs.length = vs.length := Paired.length kv
  refine ⟨hm.dictOf.typeIs, hm.dictOf.mapOf.noDict, ?_⟩
  have I3 : Inv X pins σ H2 { s1 with heap := s1.heap.push { cls := .type "dict_items", data := .fields #[.ref d] } } := I2.kept (t' := s1.toks) fun b ob q => Heap.get?_push_of_some _ q
  have fin : wpAny (model X.prog X.w) X.A (pyIter (.ref s1.heap.objs.size)) (PIE X pins σ (.Tuple elts kk tpos) R) X.xe { s1 with heap := s1.heap.push { cls := .type "dict_items", data := .fields #[.ref d] } } := by
    refine wpAny_pyIter_items (d := d) (knd := mixKind X.prog X.w) ⟨_, Heap.get?_push_size _ rfl, rfl, rfl⟩ (hm.push _) (pi_one (tk := s1.toks) I3 _ (turn_items _ hdt) ⟨.none, .none, ?_⟩ q)
    rw [hl]
    exact Heap.get?_push_size _ rfl
  show wpAny _ _ (callWith cpos (.builtin "dict.items") [.ref d] [] []) _ X.xe s1
  exact method_meetsIn F.slot_dict_items F.entry_dict_items rfl (PySem.evalArgs_none ⟨rfl, hm.dictOf.typeIs, F.args_dict_items_1 _, _, meets_dict_items (mixKind X.prog X.w) d hs, ⟨vs, hm.dictOf⟩, fin⟩)
end
def prD (e : D × D) : D := .tuple [e.1, e.2]
def iItems (f : Df) : If := fun env => (f env).bind fun r => match r.1 with
  | .dict es => if plainTy (.dict es) = true then some (es.map prD, r.2) else none
  | _ => none
theorem walks_items {K : Fg} {B : Bs} {F : Hp} {d : Addr} {od : Obj} {kvs : List (Key × V)} {es : List (D × D)} (h : Stays B d od (.dK kvs)) (t : DtK K F kvs es) : WalksB K B (Iti d od kvs) F (es.map prD) := fun {X F' H σ env} S s i => by
  have hd := h.at S
  refine ⟨fun x e => ?_, fun hl => ⟨hd, by rw [t.length]; rw [List.length_map] at hl; exact Nat.le_of_eq hl⟩⟩
  rw [List.getElem?_map] at e
  cases q : es[i]? with
  | none => rw [q] at e; cases e
  | some y =>
    rw [q] at e; cases e
    obtain ⟨k, v, h1, h2, h3⟩ := t.nth q
    refine ⟨⟨hd, (List.getElem?_eq_some_iff.mp h1).1⟩, fun x H' y' => ?_⟩
    obtain ⟨T, k', v', h4, rfl, nT, rfl⟩ := y'
    rw [h1] at h4; cases h4
    refine ⟨_, S.new nT, S.subNew nT, .tup upd_same (.cons ?_ (.cons (h3.mono (s.trans (S.subNew nT))) .nil))⟩
    rw [h2]; exact kD_dt k
section
variable {X : Cx} {Tb : TbT} {e : Expr} {apos cpos : Pos} {elts : List Expr} {kk : Nat} {tpos : Pos}
theorem di_items {f : Df} (he : PE X e (tD (X.kg Tb) f)) (hbase : attributeBase e "items" X.env (eval e X.env) = eval e X.env := by rfl) (hline : (apos.endLine == cpos.line) = true := by rfl) :
    PI X (.Tuple elts kk tpos) (.Call (.Attribute e "items" apos) [] [] cpos) (iDL X Tb (iItems f)) := PIi (pi_itemsG he hbase hline) fun σ H R ⟨B, F, env, ds, env', S, ef, k⟩ => by
  obtain ⟨⟨d, e1⟩, q, ef⟩ := bd ef
  refine ⟨B, F, env, d, e1, S, q, fun v F' H' S' s' hd => ?_⟩
  dsimp only at ef
  split at ef
  · split at ef
    · rename_i es hp
      cases ef
      cases hd with
      | scr _ => cases hp
      | dt _ _ => cases hp
      | exc _ _ => cases hp
      | exf _ _ _ _ => cases hp
      | fn _ => cases hp
      | @dk a kvs _ hf t =>
        refine ⟨a, kvs, rfl, ?_⟩
        rcases S'.fh _ _ hf with g | ⟨_, ob, g⟩ | ⟨z, _⟩
        · exact .inr ⟨g, fun o n => k _ F' _ _ (S'.lock hf g trivial o) s' (S'.opn hf g trivial o n) (walks_items (.inl List.mem_cons_self) t)⟩
        · exact .inl ⟨ob, g, k _ F' _ B S' s' (.inl rfl) (walks_items (S'.lk _ _ _ hf g) t)⟩
        · cases z
    · cases ef
  · cases ef
end

/-! ### sorted, whole numbers -/
def intsOf : List D → Option (List Int)
  | [] => some []
  | .int i :: r => (intsOf r).bind fun is => some (i :: is)
  | _ :: _ => none
def insI (i : Int) : List Int → List Int
  | [] => [i]
  | j :: r => if i ≤ j then i :: j :: r else j :: insI i r
def sortI : List Int → List Int
  | [] => []
  | i :: r => insI i (sortI r)
theorem insI_perm (i : Int) : ∀ r : List Int, (insI i r).Perm (i :: r)
  | [] => .refl _
  | j :: r => by
    unfold insI
    split
    · exact .refl _
    · exact ((insI_perm i r).cons j).trans (.swap i j r)
theorem sortI_perm : ∀ r : List Int, (sortI r).Perm r
  | [] => .refl _
  | i :: r => (insI_perm i _).trans ((sortI_perm r).cons i)
theorem insI_le (i : Int) : ∀ r : List Int, r.Pairwise (· ≤ ·) → (insI i r).Pairwise (· ≤ ·)
  | [], _ => by simp [insI]
  | j :: r, h => by
    unfold insI
    split
    · rename_i q
      refine List.pairwise_cons.mpr ⟨fun x hx => ?_, h⟩
      rcases List.mem_cons.mp hx with rfl | hx
      · exact q
      · exact Int.le_trans q ((List.pairwise_cons.mp h).1 x hx)
    · rename_i q
      refine List.pairwise_cons.mpr ⟨fun x hx => ?_, insI_le i r (List.pairwise_cons.mp h).2⟩
      rcases List.mem_cons.mp ((insI_perm i r).mem_iff.mp hx) with rfl | hx
      · omega
      · exact (List.pairwise_cons.mp h).1 x hx
theorem sortI_le : ∀ r : List Int, (sortI r).Pairwise (· ≤ ·)
  | [] => .nil
  | i :: r => insI_le i _ (sortI_le r)
theorem sorted_eq : ∀ {a b : List Int}, a.Perm b → a.Pairwise (· ≤ ·) → b.Pairwise (· ≤ ·) → a = b
  | [], b, p, _, _ => (List.nil_perm.mp p).symm
  | x :: a, [], p, _, _ => absurd p.length_eq (by simp)
  | x :: a, y :: b, p, ha, hb => by
    obtain ⟨a1, a2⟩ := List.pairwise_cons.mp ha
    obtain ⟨b1, b2⟩ := List.pairwise_cons.mp hb
    have e : x = y := by
      have h1 : x ∈ y :: b := p.mem_iff.mp List.mem_cons_self
      have h2 : y ∈ x :: a := p.mem_iff.mpr List.mem_cons_self
      rcases List.mem_cons.mp h1 with h1 | h1
      · exact h1
      · rcases List.mem_cons.mp h2 with h2 | h2
        · exact h2.symm
        · exact Int.le_antisymm (a1 y h2) (b1 x h1)
    subst e
    rw [sorted_eq ((List.perm_cons x).mp p) a2 b2]
theorem intsOf_dt {K : Fg} {F : Hp} : ∀ {vs : List V} {ds : List D} {is : List Int}, DtA K F vs ds → intsOf ds = some is → vs = is.map V.int
  | _, [], _, .nil, e => by cases e; rfl
  | _, .int i :: r, is, .cons h t, e => by
    obtain ⟨js, q, e⟩ := bd (show (intsOf r).bind (fun is => some (i :: is)) = some is from e)
    cases e
    rw [h.int_inv, intsOf_dt t q]; rfl
  | _, .none :: _, _, _, e => by cases e
  | _, .bool _ :: _, _, _, e => by cases e
  | _, .str _ :: _, _, _, e => by cases e
  | _, .list _ :: _, _, _, e => by cases e
  | _, .tuple _ :: _, _, _, e => by cases e
  | _, .dict _ :: _, _, _, e => by cases e
theorem ints_dt {K : Fg} {F : Hp} : ∀ is : List Int, DtA K F (is.map V.int) (is.map .int)
  | [] => .nil
  | i :: is => .cons (.int i) (ints_dt is)
def keyI : List (D × D) → Option (List Int)
  | [] => some []
  | (.int i, _) :: r => (keyI r).bind fun is => some (i :: is)
  | _ :: _ => none
theorem keyI_dt {K : Fg} {F : Hp} : ∀ {kvs : List (Key × V)} {es : List (D × D)} {is : List Int}, DtK K F kvs es → keyI es = some is → kvs.map (·.1) = is.map Sum.inl
  | _, _, _, .nil, e => by cases e; rfl
  | (.inl i, v) :: kvs, _, is, .cons (ds := ds) h t, e => by
    obtain ⟨js, q, e⟩ := bd (show (keyI ds).bind (fun is => some (i :: is)) = some is from e)
    cases e
    simp [keyI_dt t q]
  | (.inr x, v) :: kvs, _, is, .cons h t, e => by cases e
theorem keyI_plain {es : List (D × D)} {is : List Int} (h : keyI es = some is) : plainTy (.dict es) = true := by
  cases es with
  | nil => rfl
  | cons q r =>
    obtain ⟨a, b⟩ := q
    cases a <;> first | rfl | cases h
def gSorted : List D → Option D
  | [.list ds] => (intsOf ds).bind fun is => some (.list ((sortI is).map .int))
  | [.dict es] => (keyI es).bind fun is => if is.length < 64 then some (.list ((sortI is).map .int)) else none
  | _ => none
def rSortedG (K : Fr) : List V → Hp → VK → Prop := fun xs H Q => rSortedI K xs H Q ∨ ∃ (a : Addr) (kvs : List (Key × V)) (ks : List Int), xs = [.ref a] ∧ Rd H a (.dK kvs) ∧ kvs.map (·.1) = ks.map Sum.inl ∧ ks.length < 64 ∧
    ∀ (ys : List Int) (p : Addr), ys.Perm ks → ys.Pairwise (· ≤ ·) → H p = none → Q (.ref p) (upd H p (.lst (ys.map V.int)))
theorem call_sortedG {X : Cx} (hc : X.calm = true) : CallR X (.builtin "sorted") (rSortedG X.K) := fun pins s σ H xs us Q I r h => by
  rcases h with h | h
  · exact cr_sortedI pins s σ H xs us Q I r h
  · exact call_sortedDI hc pins s σ H xs us Q I r h
theorem ok_sorted {K : Fg} : OkAN K (rSortedG K.fr) gSorted := fun {B F H σ env xs ds d Q} S h e k => by
  unfold gSorted at e
  split at e
  · obtain ⟨is, q, e⟩ := bd e
    cases e
    obtain ⟨v, rfl, h0⟩ := h.one
    obtain ⟨p, vs, rfl, hp, t⟩ := h0.lst S.fh
    have hv := intsOf_dt t q
    subst hv
    refine .inl ⟨p, is, rfl, SqL.of hp, fun ys r hp' hs hr => ?_⟩
    have := sorted_eq (hp'.trans (sortI_perm is).symm) hs (sortI_le is)
    subst this
    exact KN.at_new (K := K) k S hr ⟨_, upd_same, ints_dt _⟩
  · obtain ⟨is, q, e⟩ := bd e
    split at e
    · rename_i hl
      cases e
      obtain ⟨v, rfl, h0⟩ := h.one
      obtain ⟨p, kvs, rfl, hp, t⟩ := h0.dk S.fh (keyI_plain q)
      refine .inr ⟨p, kvs, is, rfl, hp, keyI_dt t q, hl, fun ys r hp' hs hr => ?_⟩
      have := sorted_eq (hp'.trans (sortI_perm is).symm) hs (sortI_le is)
      subst this
      exact KN.at_new (K := K) k S hr ⟨_, upd_same, ints_dt _⟩
    · cases e
  · cases e
end DL

/-! DLt: dict(pairs), dict(d), {k: v}. -/
namespace DL
open PySem PySem.Spec PyProof.Rows L2
def mergeD (es : List (D × D)) (md : List (Key × D)) : List (D × D) := md.foldl (fun acc q => putD acc q.1 q.2) es
def unk (md : List (Key × D)) : List (D × D) := md.map fun q => (kD q.1, q.2)
theorem DtK.merge {K : Fg} {F : Hp} : ∀ {md : List (Key × D)} {more kvs : List (Key × V)} {es : List (D × D)}, DtK K F more (unk md) → DtK K F kvs es → DtK K F (mergeK kvs more) (mergeD es md)
  | [], _, _, _, .nil, t => t
  | (k, d) :: md, more, kvs, es, h, t => by
    have h : DtK K F more ((kD k, d) :: unk md) := h
    generalize hk : kD k = k0 at h
    cases h with
    | @cons k' v vs _ _ hd ht =>
      have : k' = k := by
        have := congrArg keyD hk
        rw [keyD_kD, keyD_kD] at this
        exact (Option.some.inj this).symm
      subst this
      show DtK K F (mergeK (putK kvs k' v) vs) (mergeD (putD es k' d) md)
      exact DtK.merge (md := md) ht (t.put hd k')
def pairsOf : List D → Option (List (Key × D))
  | [] => some []
  | .tuple [k, v] :: r => (keyD k).bind fun kk => (pairsOf r).bind fun md => some ((kk, v) :: md)
  | _ :: _ => none
theorem pairsOf_dt {K : Fg} {F H : Hp} (l : Lk F H) : ∀ {ds : List D} {vs : List V} {md : List (Key × D)}, DtA K F vs ds → pairsOf ds = some md → ∃ (ps : List Addr) (kvs : List (Key × V)), vs = ps.map V.ref ∧ Paired (fun p kv => SqT K.fr H p [kV kv.1, kv.2]) ps kvs ∧ DtK K F kvs (unk md)
  | [], _, _, .nil, e => by cases e; exact ⟨[], [], rfl, .nil, .nil⟩
  | d :: r, _, md, .cons h t, e => by
    unfold pairsOf at e
    split at e
    · rename_i z; cases z
    · rename_i k v r' z
      cases z
      obtain ⟨kk, q1, e⟩ := bd e
      obtain ⟨md', q2, e⟩ := bd e
      cases e
      obtain ⟨ps, kvs, rfl, hp, hk⟩ := pairsOf_dt l t q2
      cases h with
      | tup hf ht =>
        obtain ⟨v1, v2, rfl, g1, g2⟩ := ht.two
        have := keyD_eq q1
        subst this
        have := g1.keyV
        subst this
        exact ⟨_ :: ps, (kk, v2) :: kvs, rfl, .cons (SqT.of (l.tup hf)) hp, .cons g2 hk⟩
    · cases e
def gDictOf : List D → Option D
  | [.list ds] => (pairsOf ds).bind fun md => some (.dict (mergeD [] md))
  | [.dict es] => if plainTy (.dict es) = true then some (.dict es) else none
  | _ => none
def rDictOf (K : Fr) : List V → Hp → VK → Prop := fun xs H Q => (∃ (a : Addr) (ps : List Addr) (kvs : List (Key × V)), xs = [.ref a] ∧ SqL K H a (ps.map V.ref) ∧ Paired (fun p kv => SqT K H p [kV kv.1, kv.2]) ps kvs ∧ ∀ p, H p = none → Q (.ref p) (upd H p (.dK (mergeK [] kvs)))) ∨
  ∃ (a : Addr) (kvs : List (Key × V)), xs = [.ref a] ∧ Rd H a (.dK kvs) ∧ ∀ p, H p = none → Q (.ref p) (upd H p (.dK kvs))
theorem call_dictOf {X : Cx} (hc : X.calm = true) : CallR X (.type "dict") (rDictOf X.K) := fun pins s σ H xs us Q I r h => by
  rcases h with h | h
  · exact call_dictP hc pins s σ H xs us Q I r h
  · exact call_dictD pins s σ H xs us Q I r h
theorem ok_dictOf {K : Fg} : OkAN K (rDictOf K.fr) gDictOf := fun {B F H σ env xs ds d Q} S h e k => by
  unfold gDictOf at e
  split at e
  · obtain ⟨md, q, e⟩ := bd e
    cases e
    obtain ⟨v, rfl, h0⟩ := h.one
    obtain ⟨p, vs, rfl, hp, t⟩ := h0.lst S.fh
    obtain ⟨ps, kvs, rfl, h1, h2⟩ := pairsOf_dt S.fh t q
    exact .inl ⟨p, ps, kvs, rfl, SqL.of hp, h1, fun r hr => KN.at_new (K := K) k S hr (.inl ⟨_, upd_same, DtK.merge h2 .nil⟩)⟩
  · split at e
    · rename_i hp0
      cases e
      obtain ⟨v, rfl, h0⟩ := h.one
      obtain ⟨p, kvs, rfl, hp, t⟩ := h0.dk S.fh hp0
      exact .inr ⟨p, kvs, rfl, hp, fun r hr => KN.at_new (K := K) k S hr (.inl ⟨_, upd_same, t⟩)⟩
    · cases e
  · cases e

/-! ### {k: v, ..} -/
def evP : List (Df × Df) → En → Option (List (Key × D) × En)
  | [], env => some ([], env)
  | (f, g) :: r, env => (f env).bind fun a => (keyD a.1).bind fun k => (g a.2).bind fun b => (evP r b.2).bind fun z => some ((k, b.1) :: z.1, z.2)
def eDisp (ps : List (Df × Df)) : Df := fun env => if ps.length ≤ 15 then (evP ps env).bind fun r => some (.dict (mergeD [] r.1), r.2) else none
def prV (kv : Key × V) : V × V := (kV kv.1, kv.2)
theorem evP_len : ∀ {ps : List (Df × Df)} {env env' : En} {md : List (Key × D)}, evP ps env = some (md, env') → md.length = ps.length
  | [], _, _, _, e => by cases e; rfl
  | (f, g) :: r, env, env', md, e => by
    obtain ⟨a, _, e⟩ := bd e
    obtain ⟨k, _, e⟩ := bd e
    obtain ⟨b, _, e⟩ := bd e
    obtain ⟨⟨z1, z2⟩, q, e⟩ := bd e
    cases e
    simp [evP_len q]
theorem evP_run {K : Fg} {σ : L2.St} : ∀ {ps : List (Df × Df)} {B : Bs} {F H : Hp} {env env' : En} {md : List (Key × D)} {Q : List (V × V) → Hp → Prop}, Sl K B F H σ env → evP ps env = some (md, env') →
    (∀ kvs F' H', Sl K B F' H' σ env' → Sub F F' → DtK K F' kvs (unk md) → Q (kvs.map prV) H') → tPairs (ps.map fun q => (tD K q.1, tD K q.2)) σ H Q
  | [], B, F, H, env, env', md, Q, S, e, k => by
    cases e
    exact k [] F H S (Sub.refl _) .nil
  | (f, g) :: r, B, F, H, env, env', md, Q, S, e, k => by
    obtain ⟨⟨d1, e1⟩, q1, e⟩ := bd e
    obtain ⟨kk, q2, e⟩ := bd e
    obtain ⟨⟨d2, e2⟩, q3, e⟩ := bd e
    obtain ⟨⟨md', e3⟩, q4, e⟩ := bd e
    cases e
    refine ⟨B, F, env, d1, e1, S, q1, fun v F1 H1 S1 s1 h1 => ⟨B, F1, e1, d2, e2, S1, q3, fun w F2 H2 S2 s2 h2 => evP_run S2 q4 fun kvs F3 H3 S3 s3 h3 => ?_⟩⟩
    have hk := keyD_eq q2
    dsimp only at hk
    subst hk
    have hv := h1.keyV
    subst hv
    exact k ((kk, w) :: kvs) F3 H3 S3 ((s1.trans s2).trans s3) (.cons (h2.mono s3) h3)
theorem disp_le {K : Fg} {ps : List (Df × Df)} : ∀ σ H Q, tN K (eDisp ps) σ H Q → tDisp (ps.map fun q => (tD K q.1, tD K q.2)) σ H Q := fun σ H Q ⟨B, F, env, d, env', S, ef, k⟩ p hp => by
  unfold eDisp at ef
  split at ef
  · rename_i hl
    obtain ⟨⟨md, e1⟩, q, ef⟩ := bd ef
    cases ef
    have nX := S.neX hp
    have S1 := (S.laid (o := .dK []) hp).hold upd_same (S.fh.none hp) (S.fresh hp) fun i d o => S.neOw hp o
    refine evP_run S1 q fun kvs F' H' S' s' h => ?_
    obtain ⟨g1, g2, g3, g4⟩ := S'.held
    have hlen := evP_len q
    refine ⟨g1, kvs, rfl, by have := h.length; simp [unk] at this; omega, ?_⟩
    have S2 := S'.rehold (u := .dK (mergeK [] kvs)) nX
    obtain ⟨r1, r2, r3, r4⟩ := S2.held
    exact k p F' _ S2.unhold s' r2 r3 r4 nX (.inl ⟨_, r1, DtK.merge h .nil⟩)
  · cases ef
section
variable {X : Cx} {Tb : TbT} {pos : Pos} {keys : List (Option Expr)} {values : List Expr} {ps : List (Df × Df)}
theorem de_disp (h : PPs X pos keys values (ps.map fun q => (tD (X.kg Tb) q.1, tD (X.kg Tb) q.2))) (hall : keys.all (·.isSome) = true := by rfl) (hl : keys.length = values.length := by rfl) (h0 : keys ≠ [] := by exact List.cons_ne_nil _ _) (h15 : keys.length ≤ 15 := by decide) : PE X (.Dict keys values pos) (tN (X.kg Tb) (eDisp ps)) := PEi (pe_disp h hall hl h0 h15) disp_le
theorem dps_nil : PPs X pos [] [] (([] : List (Df × Df)).map fun q => (tD (X.kg Tb) q.1, tD (X.kg Tb) q.2)) := pps_nil
theorem dps_cons {k v : Expr} {f g : Df} (hk : PE X k (tD (X.kg Tb) f)) (hv : PE X v (tD (X.kg Tb) g)) (hr : PPs X pos keys values (ps.map fun q => (tD (X.kg Tb) q.1, tD (X.kg Tb) q.2))) : PPs X pos (some k :: keys) (v :: values) (((f, g) :: ps).map fun q => (tD (X.kg Tb) q.1, tD (X.kg Tb) q.2)) := pps_cons hk hv hr
end
end DL

/-! DLu: {k: v for t in it if c}. -/
namespace DL
open PySem L2
def dcGo (vs : List Nat) (t : Tg) (c : Bf) (f g : Df) : List D → List (D × D) → En → Option (List (D × D) × En)
  | [], acc, env => some (acc, env)
  | d :: ds, acc, env => (t d env).bind fun e1 => (c e1).bind fun b => if b.1 = true then (f b.2).bind fun x => (keyD x.1).bind fun k => (g x.2).bind fun y => (wipeE vs y.2).bind fun e => dcGo vs t c f g ds (putD acc k y.1) e else (wipeE vs b.2).bind fun e => dcGo vs t c f g ds acc e
def eDc (vs : List Nat) (t : Tg) (it : If) (c : Bf) (f g : Df) : Df := fun env => (it env).bind fun r => if r.1.length < 100000 then (wipeE vs r.2).bind fun e => (dcGo vs t c f g r.1 [] e).bind fun z => some (.dict z.1, restore vs r.2 z.2) else none
theorem putK_len (kvs : List (Key × V)) (k : Key) (v : V) : (putK kvs k v).length ≤ kvs.length + 1 := length_putK kvs k v
theorem dc_le {X : Cx} {Tb : TbT} {vs ts : List Nat} {t : Tg} {it : If} {c : Bf} {f g : Df} (hs : ∀ j ∈ ts, j ∈ vs) : ∀ σ H Q, tN (X.kg Tb) (eDc vs t it c f g) σ H Q → tDc (iDL X Tb it) (gD (X.kg Tb) t ts) (tT (X.kg Tb) c) (tD (X.kg Tb) f) (tD (X.kg Tb) g) vs σ H (fun v H' => Un X H' (Q v)) := fun σ H Q ⟨B, F, env, d, env', S, ef, k⟩ => by
  obtain ⟨⟨ds, e1⟩, q1, ef⟩ := bd ef
  by_cases hlen : ds.length < 100000
  rotate_left
  · rw [if_neg hlen] at ef; cases ef
  rw [if_pos hlen] at ef
  obtain ⟨e2, q2, ef⟩ := bd ef
  obtain ⟨⟨all, ez⟩, q3, ef⟩ := bd ef
  cases ef
  obtain ⟨hv, rfl⟩ := wipeE_inv q2
  refine ⟨B, F, env, ds, e1, S, q1, fun J F1 H1 B' S1 s1 op W Dl hD => ?_⟩
  have nX := S1.neX hD
  refine ⟨fun i m H => m = ds.length - i ∧ i ≤ ds.length ∧ ∃ F2 en vacc acc, Sl (X.kg Tb) (B'.hold Dl (.dK vacc)) F2 H (L2.wipe σ vs) en ∧ Sub F1 F2 ∧ DtK (X.kg Tb) F2 vacc acc ∧ vacc.length ≤ i ∧ dcGo vs t c f g (ds.drop i) acc en = some (all, ez),
    ⟨ds.length, by simp, Nat.zero_le _, F1, _, [], [], ?_, Sub.refl _, .nil, Nat.le_refl _, q3⟩, ?_⟩
  · refine ((S1.wipe hv).laid hD).hold upd_same (S1.fh.none hD) (S1.fresh hD) fun i d o => (S1.wipe hv).neOw hD o
  rintro i m H2 ⟨rfl, hi, F2, en, vacc, acc, S2, s2, hda, hvl, e3⟩
  obtain ⟨w1, w2⟩ := W (X := (Dl, .dK vacc) :: B'.X) S2 s2 i
  cases hd : ds[i]? with
  | none =>
    have hl : ds.length ≤ i := List.getElem?_eq_none_iff.mp hd
    rw [List.drop_eq_nil_of_le hl] at e3
    cases e3
    refine .inl ⟨w2 (Nat.le_antisymm hl hi), ?_⟩
    obtain ⟨h1, h2, h3, h4⟩ := S2.held
    obtain ⟨S3, ow3⟩ := S1.back hv S2.unhold s2
    have h0 : B'.H0 = B.H0 := by rcases op with rfl | ⟨d, od, u, rfl, _⟩ <;> rfl
    have hX : B'.X = B.X := by rcases op with rfl | ⟨d, od, u, rfl, _⟩ <;> rfl
    refine (op.unl S3).imp fun H4 ⟨S4, kk⟩ => ?_
    exact k Dl F2 H4 S4 (s1.trans s2) h2 (by rw [← h0]; exact h3) (fun j d o => by
      obtain ⟨a, b⟩ := ow3 j d o
      rw [← b]
      exact h4 j d a) (by rw [← hX]; exact nX) (.inl ⟨vacc, kk _ _ h2 h1, hda⟩)
  | some d =>
    have hlt : i < ds.length := (List.getElem?_eq_some_iff.mp hd).1
    rw [drop_get hd] at e3
    obtain ⟨e4, q4, e3⟩ := bd (show (t d en).bind (fun e1 => (c e1).bind fun b => if b.1 = true then (f b.2).bind fun x => (keyD x.1).bind fun k => (g x.2).bind fun y => (wipeE vs y.2).bind fun e => dcGo vs t c f g (ds.drop (i + 1)) (putD acc k y.1) e else (wipeE vs b.2).bind fun e => dcGo vs t c f g (ds.drop (i + 1)) acc e) = some (all, ez) from e3)
    obtain ⟨⟨b, e5⟩, q5, e3⟩ := bd e3
    obtain ⟨go, yl⟩ := w1 d hd
    refine .inr ⟨go, fun H => ∃ F2 en vacc acc, Sl (X.kg Tb) (B'.hold Dl (.dK vacc)) F2 H (L2.wipe σ vs) en ∧ Sub F1 F2 ∧ DtK (X.kg Tb) F2 vacc acc ∧ vacc.length ≤ i + 1 ∧ dcGo vs t c f g (ds.drop (i + 1)) acc en = some (all, ez), fun H' hN => ⟨ds.length - (i + 1), by omega, rfl, hlt, hN⟩, fun x H' y => ?_⟩
    obtain ⟨F3, S3, s3, hx⟩ := yl x H' y
    refine ⟨B'.hold Dl (.dK vacc), F3, en, d, e4, S3, hx, q4, fun σ4 F4 H4 S4 s4 but => ⟨wipe_but but hs, B'.hold Dl (.dK vacc), F4, e4, b, e5, S4, q5, fun F5 H5 S5 s5 => ?_⟩⟩
    have hw := wipe_but but hs
    have s25 : Sub F2 F5 := (s3.trans s4).trans s5
    cases b with
    | false =>
      rw [if_neg Bool.false_ne_true] at e3
      refine iteF ?_
      obtain ⟨e6, q6, e3⟩ := bd e3
      obtain ⟨hv6, rfl⟩ := wipeE_inv q6
      exact ⟨F5, _, vacc, acc, hw ▸ S5.wipe hv6, s2.trans s25, hda.mono s25, Nat.le_succ_of_le hvl, e3⟩
    | true =>
      rw [if_pos rfl] at e3
      refine iteT ?_
      obtain ⟨⟨x', e6⟩, q6, e3⟩ := bd e3
      obtain ⟨kk, q9, e3⟩ := bd e3
      obtain ⟨⟨y', e8⟩, q10, e3⟩ := bd e3
      obtain ⟨e7, q7, e9⟩ := bd e3
      obtain ⟨hv7, rfl⟩ := wipeE_inv q7
      refine ⟨B'.hold Dl (.dK vacc), F5, e5, x', e6, S5, q6, fun v F6 H6 S6 s6 hv6 => ⟨B'.hold Dl (.dK vacc), F6, e6, y', e8, S6, q10, fun w F7 H7 S7 s7 hw7 => ?_⟩⟩
      obtain ⟨g1, g2, g3, g4⟩ := S7.held
      have hk := keyD_eq q9
      dsimp only at hk
      subst hk
      refine ⟨vacc, kk, hv6.keyV, g1, Nat.lt_of_le_of_lt (Nat.le_trans hvl (Nat.le_of_lt hlt)) (Nat.lt_of_lt_of_le hlen (by decide)), ?_⟩
      have s27 : Sub F2 F7 := (s25.trans s6).trans s7
      exact ⟨F7, _, putK vacc kk w, putD acc kk y', hw ▸ (S7.rehold (u := .dK (putK vacc kk w)) nX).wipe hv7, s2.trans s27, (hda.mono s27).put hw7 kk, Nat.le_trans (length_putK _ _ _) (Nat.succ_le_succ hvl), e9⟩
section
variable {X : Cx} {Tb : TbT} {kx vx tg iter : Expr} {ifs : List Expr} {scope : Scope} {own : List (Str × Nat)} {pos : Pos}
theorem de_dc {t : Tg} {ts : List Nat} {it : If} {c : Bf} {f g : Df} (hc : X.calm = true) (hN : X.N.Nodup) (hs' : ∀ j ∈ ts, j ∈ own.map (·.2)) (hi : PI X tg iter (iDL X Tb it)) (ok : BlkOk X.N X.env.scope scope own)
    (hg : ∀ (s : Shared) (H : Hp) (C : Addr) (cl : List (Str × Addr)) (fp : List Addr), PG (X.blk s H scope (compEnvC scope cl C X.env) fp) tg (gD (X.kg Tb) t ts)) (ht : ∀ (s : Shared) (H : Hp) (C : Addr) (cl : List (Str × Addr)) (fp : List Addr), PTs (X.blk s H scope (compEnvC scope cl C X.env) fp) ifs (tT (X.kg Tb) c))
    (hk : ∀ (s : Shared) (H : Hp) (C : Addr) (cl : List (Str × Addr)) (fp : List Addr), PE (X.blk s H scope (compEnvC scope cl C X.env) fp) kx (tD (X.kg Tb) f))
    (he : ∀ (s : Shared) (H : Hp) (C : Addr) (cl : List (Str × Addr)) (fp : List Addr), PE (X.blk s H scope (compEnvC scope cl C X.env) fp) vx (tD (X.kg Tb) g)) (hs : ∀ x, foldedSetIterable iter X.env x = pure x := by intro _; rfl) :
    PE X (.DictComp kx vx [⟨tg, iter, ifs, 0⟩] scope pos) (tN (X.kg Tb) (eDc (own.map (·.2)) t it c f g)) := PEi (pe_unl (pe_dc hc hN hi ok hg ht hk he hs)) (dc_le hs')
end
end DL

/-! DLv: a, *b = t. -/
namespace DL
open PySem PySem.Spec PySem.W PyProof.Rows L2
/-- the values that a starred target takes: i ahead of the star, n in all -/
def gStarT (K : Fr) (n i : Nat) (t : TGs) : TG := fun v σ H Q => ∃ a xs, v = .ref a ∧ SqT K H a xs ∧ i < n ∧ n ≤ xs.length + 1 ∧ xs.length ≤ 16384 ∧ ∀ D, H D = none → t (xs.take i ++ [.ref D] ++ (xs.drop i).drop (xs.length + 1 - n)) σ (upd H D (.lst ((xs.drop i).take (xs.length + 1 - n)))) Q
section
variable {X : Cx} {Tb : TbT} {pos : Pos}
theorem pg_star {es : List Expr} {k : Nat} {t : TGs} {n i : Nat} (hc : X.calm = true) (h : PGs X es t) (hn : (assignEach es X.env).length = n := by rfl) (hst : (assignEach es X.env).findIdx? (·.1) = some i := by rfl) : PG X (.Tuple es k pos) (gStarT X.K n i t) := by
  refine ⟨fun pins s σ H v u Q I r hw => ?_⟩
  obtain ⟨a, xs, e1, hq, hi, hn', hz, hw⟩ := hw
  subst e1
  cases r
  obtain ⟨its, rv, ht, _⟩ := I.tuple hq
  have hh : X.A.handled = none := I.ok.hd hc
  have hl := rv.length
  have hsz : its.toArray.size = xs.length := by simp [hl]
  have hlt : a ≠ s.heap.objs.size := by obtain ⟨o, ho, _⟩ := ht; exact Nat.ne_of_lt (Heap.lt_size ho)
  rw [assign_Tuple]
  refine wpAny_bind (wpAny_standAt ?_)
  unfold unpack
  rw [hn, hst]
  refine wpAny_bind (wpAny_holding ?_)
  unfold unpackItems
  refine wpAny_bind ?_
  unfold notIterableAtAll
  refine wpAny_bind (wpAny_specialOf ht.typeIs slot_tuple_iter.lookup ?_)
  refine wpAny_pure ?_
  simp only [Bool.false_eq_true, if_false]
  refine wpAny_bind (wpAny_holding (iter_tuple ht ?_))
  refine wpAny_bind (wpAny_holding (draw_tuple hlt i 0 _ _ ⟨_, Heap.get?_push_size _ rfl, rfl, rfl⟩ (ht.push _) (by omega) fun h₁ hit₁ hs₁ => ?_))
  have hl₁ : IsTup h₁ a its.toArray := (ht.push _).extBut hs₁.extBut hlt
  rw [Nat.zero_add] at hit₁
  have hit₁' := hit₁
  obtain ⟨oi, hoi, _⟩ := hit₁'
  have hl₁' := hl₁
  obtain ⟨ol, hol, _⟩ := hl₁'
  rw [List.drop_zero]
  have hfl : (its.toArray.toList.take i).length = i := by rw [List.length_take, Array.length_toList]; omega
  rw [if_neg (show ¬ ((its.toArray.toList.take i).length < i) by rw [hfl]; omega)]
  refine wpAny_bind (wpAny_holding (kun_collect (s := { s with heap := h₁ }) (T := "tuple_iterator") (.inr (.inr (.inr rfl))) (Walks.tuple (A := X.A.in1) hh s.heap.objs.size a hlt its.toArray) (fun j u st => st.1.typeIs) (k := i) (by omega) ⟨hit₁, hl₁⟩ (Heap.lt_size hoi) (Heap.lt_size hol) (fun h₂ tk hk => ?_) (by rw [sizeLine_eq]; omega)))
  have hrl : (its.toArray.toList.drop i).length = its.toArray.size - i := by rw [List.length_drop, Array.length_toList]
  have hmid : (its.toArray.toList.drop i).length - (n - 1 - i) = xs.length + 1 - n := by rw [hrl]; omega
  show wpAny _ _ (if (its.toArray.toList.drop i).length < n - 1 - i then _ else _) _ _ _
  rw [if_neg (by rw [hrl]; omega)]
  show wpAny _ _ (newList ((its.toArray.toList.drop i).take ((its.toArray.toList.drop i).length - (n - 1 - i))) >>= fun d => pure (its.toArray.toList.take i ++ [d] ++ (its.toArray.toList.drop i).drop ((its.toArray.toList.drop i).length - (n - 1 - i)))) _ _ _
  rw [hmid]
  have he : Heap.ExtBut s.heap.objs.size s.heap h₂ := fun b o hb e => hk b o hb (hs₁.extBut b o hb (Heap.get?_push_of_some _ e))
  have I1 : Inv X pins σ H { s with heap := h₂, toks := tk } := I.kept fun b o e => he b o (Nat.ne_of_lt (Heap.lt_size e)) e
  have rm : Vals ((xs.drop i).take (xs.length + 1 - n)) ((its.drop i).take (xs.length + 1 - n)) := (rv.drop _).take _
  refine wpAny_bind (wpAny_newList ?_ (by rw [List.length_take, hrl, sizeLine_eq]; omega))
  refine wpAny_pure ?_
  have I2 := I1.lnew (t' := tk) rm (by rw [List.length_take, sizeLine_eq]; omega)
  refine h.run pins _ σ _ _ _ Q I2 ?_ (hw _ I1.fresh)
  have rD : RelV (.ref h₂.objs.size) (.ref h₂.objs.size) := rfl
  exact ((rv.take i).append (.cons rD .nil)).append ((rv.drop i).drop _)
theorem pgs_starred {e : Expr} {p : Pos} {es : List Expr} {t : TG} {u : TGs} (h1 : PG X e t) (h2 : PGs X es u) (hs : (assignEach (.Starred e p :: es) X.env).map (·.2) = assign e X.env :: (assignEach es X.env).map (·.2) := by rfl) : PGs X (.Starred e p :: es) (gCons t u) := by
  refine ⟨fun pins s σ H vs us Q I r h => ?_⟩
  obtain ⟨v, vr, e1, h⟩ := h
  subst e1
  cases r with
  | cons r rr =>
    rw [hs]
    refine assignInOrder_cons (thn (h1.run pins s σ H _ _ _ I r h) fun _ s1 ⟨σ1, H1, I1, q1⟩ => ?_)
    exact h2.run pins s1 σ1 H1 _ _ Q I1 rr q1
theorem dgs_star {e : Expr} {p : Pos} {es : List Expr} {t : Tg} {r : List D → En → Option En} {ts us : List Nat} (h1 : PG X e (gD (X.kg Tb) t ts)) (h2 : PGs X es (gsD (X.kg Tb) r us)) (hs : (assignEach (.Starred e p :: es) X.env).map (·.2) = assign e X.env :: (assignEach es X.env).map (·.2) := by rfl) : PGs X (.Starred e p :: es) (gsD (X.kg Tb) (tgsCons t r) (ts ++ us)) :=
  PGsi (pgs_starred h1 h2 hs) fun v σ H Q ⟨B, F, env, ds, env', S, hd, et, k⟩ => by
    cases hd with
    | nil => cases et
    | cons h hd =>
      obtain ⟨e1, q, et⟩ := bd et
      exact ⟨_, _, rfl, B, F, env, _, e1, S, h, q, fun σ1 F1 H1 S1 s1 b1 => ⟨B, F1, e1, _, env', S1, hd.mono s1, et, fun σ2 F2 H2 S2 s2 b2 => k σ2 F2 H2 S2 (s1.trans s2) ⟨b2.1.trans b1.1, fun j hj => (b2.2 j fun z => hj (List.mem_append_right _ z)).trans (b1.2 j fun z => hj (List.mem_append_left _ z))⟩⟩⟩
/-- n targets, the one at i starred -/
def tgStar (n i : Nat) (r : List D → En → Option En) : Tg := fun d env => match d with
  | .tuple ds => if i < n ∧ n ≤ ds.length + 1 ∧ ds.length ≤ 16384 then r (ds.take i ++ [.list ((ds.drop i).take (ds.length + 1 - n))] ++ (ds.drop i).drop (ds.length + 1 - n)) env else none
  | _ => none
theorem dg_star {es : List Expr} {k n i : Nat} {r : List D → En → Option En} {ts : List Nat} (hc : X.calm = true) (h : PGs X es (gsD (X.kg Tb) r ts)) (hn : (assignEach es X.env).length = n := by rfl) (hst : (assignEach es X.env).findIdx? (·.1) = some i := by rfl) : PG X (.Tuple es k pos) (gD (X.kg Tb) (tgStar n i r) ts) :=
  PGi (pg_star hc h hn hst) fun v σ H Q ⟨B, F, env, d, env', S, hd, et, k⟩ => by
    unfold tgStar at et
    split at et
    · split at et
      · rename_i ds hl
        cases hd with
        | @tup a xs _ hq hd =>
          refine ⟨_, _, rfl, SqT.of (S.fh.tup hq), hl.1, by rw [hd.length]; exact hl.2.1, by rw [hd.length]; exact hl.2.2, fun Dl hD => ?_⟩
          refine ⟨B, _, env, _, env', S.new hD, ?_, et, fun σ' F' H' S' s' b => k σ' F' H' S' ((S.subNew hD).trans s') b⟩
          rw [hd.length]
          have m := hd.mono (S.subNew (o := .lst ((xs.drop i).take (ds.length + 1 - n))) hD)
          exact ((m.take i).append (.cons (.lst upd_same ((m.drop i).take _)) .nil)).append ((m.drop i).drop _)
      · cases et
    · cases et
end
end DL

/-! DLw: sorted, of tuples. -/
namespace DL
open PySem PySem.Spec PyProof.Rows L2
theorem units65 {k : Nat} {A : Around} (r : Room k A) : A.units + 65 < cLine := by have := r.un; omega
theorem lexLt_asym : ∀ xs ys : List Int, HT.lexLt xs ys = true → HT.lexLt ys xs = false
  | [], [], h => by cases h
  | [], _ :: _, _ => rfl
  | _ :: _, [], h => by cases h
  | x :: xs, y :: ys, h => by
    rw [HT.lexLt_cons] at h ⊢
    by_cases e : x = y
    · subst e; rw [if_pos rfl] at h ⊢; exact lexLt_asym xs ys h
    · rw [if_neg e] at h; rw [if_neg (Ne.symm e)]; simp at h ⊢; omega
theorem lexLt_tr : ∀ xs ys zs : List Int, HT.lexLt xs ys = false → HT.lexLt ys zs = false → HT.lexLt xs zs = false
  | [], [], zs, _, h => h
  | [], _ :: _, _, h, _ => by cases h
  | _ :: _, _, [], _, _ => rfl
  | _ :: _, [], _ :: _, _, h => by cases h
  | x :: xs, y :: ys, z :: zs, h1, h2 => by
    rw [HT.lexLt_cons] at h1 h2 ⊢
    by_cases e : x = y
    · subst e
      rw [if_pos rfl] at h1
      by_cases e2 : x = z
      · subst e2; rw [if_pos rfl] at h2 ⊢; exact lexLt_tr xs ys zs h1 h2
      · rw [if_neg e2] at h2 ⊢; exact h2
    · rw [if_neg e] at h1
      by_cases e2 : y = z
      · subst e2; rw [if_neg e]; exact h1
      · rw [if_neg e2] at h2
        simp at h1 h2
        rw [if_neg (by omega)]
        simp; omega
theorem swo_lexL (k : Value → List Int) : SrtO.Swo fun v u => HT.lexLt (k v) (k u) := ⟨fun x y h => lexLt_asym _ _ h, fun x y z h1 h2 => lexLt_tr _ _ _ h2 h1⟩
section
variable {prog : Program} {w : World} {A : Around} {s : Shared}
theorem kat_ints {b fin : Bool} {Q : Bool → Shared → Prop} (hb : b = true) : ∀ {xs ys : List Int} {us ws : List Value} (i : Nat), IntsAre us xs → IntsAre ws ys → fin = decide (xs.length < ys.length) → Q (HT.lexLt xs ys) s → PySem.W.KatLex prog w A b fin Q (us.zip ws) i s
  | [], [], _, _, i, .nil, .nil, e, q => by subst e; exact q
  | [], y :: ys, _, _, i, .nil, .cons _ _ _, e, q => by subst e; exact PySem.W.kat_nil (by simpa [HT.lexLt] using q)
  | x :: xs, [], _, _, i, .cons _ _ _, .nil, e, q => by subst e; exact PySem.W.kat_nil (by simpa [HT.lexLt] using q)
  | x :: xs, y :: ys, _, _, i, .cons _ t hxs, .cons _ u hys, e, q => by
    refine PySem.W.kat_cons (SeqAt.EqAt.int_int x t y u prog w _ _ ?_)
    rw [HT.lexLt_cons] at q
    refine PySem.W.kat_go (fun e1 => ?_) (fun e1 => ?_)
    · have ex : x = y := by simpa using e1
      rw [if_pos ex] at q
      exact PySem.W.kat_yes (kat_ints hb (i + 1) hxs hys (by rw [e]; simp) q)
    · have ex : ¬ x = y := by simpa using e1
      rw [if_neg ex] at q
      refine PySem.W.kat_no ?_
      subst hb
      cases i with
      | zero => exact oneLt_int q
      | succ i => exact PySem.W.kat_one _ _ (lt_int q)
/-- a tuple of whole numbers, one at least -/
def IsIT (h : Heap) (v : Value) (ns : List Int) : Prop := ∃ a o us n, v = .ref a ∧ h.get? a = some o ∧ o.cls = .type "tuple" ∧ o.data = .seq us n ∧ IntsAre us.toList ns ∧ ns ≠ []
theorem it_cmp {vs : List Value} {k : Value → List Int} (hp : ∀ v ∈ vs, IsIT s.heap v (k v)) : SrtO.Cmp prog w A s (tuples' true) (fun p => p.1 ∈ vs) (SrtO.lt2 fun v u => HT.lexLt (k v) (k u)) := by
  intro p q hm hm'
  obtain ⟨a, o, us, n, e, ho, hc, hd, hi, _⟩ := hp _ hm
  obtain ⟨a', o', us', n', e', ho', hc', hd', hi', _⟩ := hp _ hm'
  show wpAny (model prog w) A (keyLt' (tuples' true) p.1 q.1) (fun r s' => s' = s ∧ r = HT.lexLt (k p.1) (k q.1)) (fun _ _ => False) s
  have l1 : us.size = (k p.1).length := by rw [← Array.length_toList]; exact hi.length
  have l2 : us'.size = (k q.1).length := by rw [← Array.length_toList]; exact hi'.length
  generalize k p.1 = x at hi l1 ⊢
  generalize k q.1 = y at hi' l2 ⊢
  rw [e, e']
  exact PySem.W.kat_lt ho hd ho' hd' (kat_ints rfl 0 hi hi' (by rw [l1, l2]) ⟨rfl, rfl⟩)
theorem it_firsts {h : Heap} : ∀ {vs : List Value}, (∀ v ∈ vs, ∃ ns, IsIT h v ns) → ∃ fs : List Value, PySem.W.KatTups h vs fs ∧ fs.length = vs.length ∧ ∀ f ∈ fs, ∃ (x : Int) (t : Tok), f = .int x t
  | [], _ => ⟨[], PySem.W.KatTups.nil, rfl, fun _ z => nomatch z⟩
  | v :: vs, hp => by
    obtain ⟨fs, h1, h2, h3⟩ := it_firsts fun u hu => hp u (List.mem_cons_of_mem _ hu)
    obtain ⟨ns, a, o, us, n, rfl, ho, hc, hd, hi, hn⟩ := hp v List.mem_cons_self
    cases ns with
    | nil => exact absurd rfl hn
    | cons x r =>
      obtain ⟨l⟩ := us
      cases hi with
      | cons _ t hr => exact ⟨.int x t :: fs, PySem.W.KatTups.cons ho hc hd rfl h1, by simp [h2], fun f hf => by
          rcases List.mem_cons.mp hf with rfl | hf
          · exact ⟨x, t, rfl⟩
          · exact h3 f hf⟩
theorem IsIT.keeps {h h' : Heap} {v : Value} {ns : List Int} (x : IsIT h v ns) (kp : ∀ b o, h.get? b = some o → o.cls = .type "tuple" → h'.get? b = some o) : IsIT h' v ns := by
  obtain ⟨a, o, us, n, e, ho, hc, r⟩ := x
  exact ⟨a, o, us, n, e, kp a o ho hc, hc, r⟩
theorem it_sortable {a : Addr} {vs : List Value} {k : Value → List Int} (h0 : 0 < vs.length) (hp : ∀ v ∈ vs, IsIT s.heap v (k v)) (ha : ∀ o, s.heap.get? a = some o → o.cls ≠ .type "tuple") : SrtO.SortableO prog w A s a vs fun v u => HT.lexLt (k v) (k u) := by
  intro h' keep
  have hp' : ∀ v ∈ vs, IsIT h' v (k v) := fun v hm => (hp v hm).keeps fun b o e c => keep b o (fun z => by subst z; exact ha o e c) e
  obtain ⟨fs, h1, h2, h3⟩ := it_firsts fun v hm => ⟨_, hp' v hm⟩
  refine ⟨tuples' true, fun Q E hq => ?_, it_cmp (s := { s with heap := h' }) hp'⟩
  refine PySem.W.kat_kind (T := .type "int") h1 (by omega) (fun f hm => ?_) (by rfl) ?_
  · obtain ⟨x, t, rfl⟩ := h3 f hm
    exact PySem.W.Looks.now
  · have e : (Value.type "int" != Value.type "tuple") = true := by first | decide +kernel | rfl | decide
    rw [e]
    exact hq
end
/-- sorted(l), tuples of whole numbers -/
def rSortedIT (K : Fr) : List V → Hp → VK → Prop := fun vs H Q => ∃ (a : Addr) (xs : List V) (k : V → List Int), vs = [V.ref a] ∧ SqL K H a xs ∧ (∀ x ∈ xs, ∃ t, x = V.ref t ∧ H t = some (.tup ((k x).map V.int)) ∧ k x ≠ []) ∧
  ∀ ys p, SrtO.Srtd (fun x y => HT.lexLt (k x) (k y)) ys → SrtO.Stb (fun x y => HT.lexLt (k x) (k y)) ys xs → H p = none → Q (.ref p) (upd H p (.lst ys))
theorem vals_intsAre : ∀ {ns : List Int} {us : List Value}, Vals (ns.map V.int) us → IntsAre us ns
  | [], _, .nil => .nil
  | n :: ns, _, .cons h t => by obtain ⟨u, rfl⟩ := h; exact .cons _ _ (vals_intsAre t)
theorem cr_sortedIT {X : Cx} : CallR X (.builtin "sorted") (rSortedIT X.K) := by
  intro pins s σ H vs us Q I r h
  obtain ⟨a, xs, k, rfl, hs, hx, q⟩ := h
  obtain ⟨its, rv, hl, hz⟩ := I.list hs
  obtain ⟨u, rfl, ru⟩ := vals1 r
  obtain rfl : u = Value.ref a := ru
  obtain ⟨e1, e2⟩ := refs_back rv fun x m => by
    obtain ⟨t, e, _⟩ := hx x m
    exact ⟨t, e⟩
  have hp : ∀ v ∈ its, IsIT s.heap v (k (backV v)) := fun v hv => by
    obtain ⟨t, rfl⟩ := e2 v hv
    have hm : V.ref t ∈ xs := by rw [e1]; exact List.mem_map.mpr ⟨_, hv, rfl⟩
    obtain ⟨t', e, ht, hne⟩ := hx _ hm
    cases e
    obtain ⟨_, its2, r2, o, ho, hc, n, hd⟩ := I.hok _ _ ht
    exact ⟨t, o, _, n, rfl, ho, hc, hd, (by simpa using vals_intsAre r2 : IntsAre its2.toArray.toList (k (V.ref t))), hne⟩
  refine SrtO.sorted_ord (swo_lexL fun u => k (backV u)) hl.isList (by rw [← rv.length]; exact hz) (fun h2 h₁ a' ha kk => ?_) fun out h1 h2 => ?_
  · refine it_sortable (s := { s with heap := h₁ }) (by omega) (fun v hm => (hp v hm).keeps fun b o e _ => (kk b o e).2) fun o e => ?_
    have e' : some o = some (seqObj "list" its.toArray 0) := e.symm.trans ha
    cases e'
    intro c
    exact absurd (Value.type.inj c) (by decide)
  · have h3 : ∀ u ∈ out, ∃ a, u = Value.ref a := fun u hu => e2 u (h2.perm.mem_iff.mp hu)
    obtain ⟨n, hn⟩ := sortedAll_at s.heap its out.toArray
    have hb : SrtO.Stb (fun x y => HT.lexLt (k x) (k y)) (out.map backV) xs := by
      rw [e1]
      have O : SrtO.Swo fun x y : V => HT.lexLt (k x) (k y) := ⟨fun x y h => lexLt_asym _ _ h, fun x y z h1 h2 => lexLt_tr _ _ _ h2 h1⟩
      exact SrtO.Stb.map O backV h2
    refine ⟨.ref (s.heap.objs.size + 1), upd H (s.heap.objs.size + 1) (.lst (out.map backV)), I.laid (t' := s.toks) (fun _ _ => sortedAll_old) (Nat.le_succ _) ⟨?_, out, n, vals_back h3, hn⟩, rfl, q _ _ (SrtO.srtd_map h1) hb (I.hok.fresh (Nat.le_succ _))⟩
    rw [hb.len]
    exact hz
end DL

/-! DLx: sorted, of tuples of whole numbers, on data. -/
namespace DL
open PySem L2
theorem lexLt_anti : ∀ xs ys : List Int, HT.lexLt xs ys = false → HT.lexLt ys xs = false → xs = ys
  | [], [], _, _ => rfl
  | [], _ :: _, h, _ => by cases h
  | _ :: _, [], _, h => by cases h
  | x :: xs, y :: ys, h1, h2 => by
    rw [HT.lexLt_cons] at h1 h2
    by_cases e : x = y
    · subst e; rw [if_pos rfl] at h1 h2; rw [lexLt_anti xs ys h1 h2]
    · rw [if_neg e] at h1; rw [if_neg (Ne.symm e)] at h2; simp at h1 h2; omega
def insL (i : List Int) : List (List Int) → List (List Int)
  | [] => [i]
  | j :: r => if HT.lexLt j i = true then j :: insL i r else i :: j :: r
def sortL : List (List Int) → List (List Int)
  | [] => []
  | i :: r => insL i (sortL r)
theorem insL_perm (i : List Int) : ∀ r : List (List Int), (insL i r).Perm (i :: r)
  | [] => .refl _
  | j :: r => by
    unfold insL
    split
    · exact ((insL_perm i r).cons j).trans (.swap i j r)
    · exact .refl _
theorem sortL_perm : ∀ r : List (List Int), (sortL r).Perm r
  | [] => .refl _
  | i :: r => (insL_perm i _).trans ((sortL_perm r).cons i)
abbrev LeL (a b : List Int) : Prop := HT.lexLt b a = false
theorem insL_le (i : List Int) : ∀ r : List (List Int), r.Pairwise LeL → (insL i r).Pairwise LeL
  | [], _ => by simp [insL]
  | j :: r, h => by
    obtain ⟨h1, h2⟩ := List.pairwise_cons.mp h
    unfold insL
    split
    · rename_i q
      refine List.pairwise_cons.mpr ⟨fun x hx => ?_, insL_le i r h2⟩
      rcases List.mem_cons.mp ((insL_perm i r).mem_iff.mp hx) with rfl | hx
      · exact lexLt_asym _ _ q
      · exact h1 x hx
    · rename_i q
      have q : HT.lexLt j i = false := by simpa using q
      refine List.pairwise_cons.mpr ⟨fun x hx => ?_, h⟩
      rcases List.mem_cons.mp hx with rfl | hx
      · exact q
      · exact lexLt_tr _ _ _ (h1 x hx) q
theorem sortL_le : ∀ r : List (List Int), (sortL r).Pairwise LeL
  | [] => .nil
  | i :: r => insL_le i _ (sortL_le r)
theorem sortedL_eq {a b : List (List Int)} (p : a.Perm b) (ha : a.Pairwise LeL) (hb : b.Pairwise LeL) : a = b := List.Perm.eq_of_pairwise (fun x y _ _ h1 h2 => lexLt_anti x y h2 h1) ha hb p
def tupI : D → Option (List Int)
  | .tuple (d :: ds) => intsOf (d :: ds)
  | _ => none
def tupsI : List D → Option (List (List Int))
  | [] => some []
  | d :: ds => (tupI d).bind fun i => (tupsI ds).bind fun r => some (i :: r)
def tupD (ns : List Int) : D := .tuple (ns.map .int)
theorem intsOf_eq : ∀ {ds : List D} {is : List Int}, intsOf ds = some is → ds = is.map .int
  | [], _, e => by cases e; rfl
  | .int i :: r, is, e => by
    obtain ⟨js, q, e⟩ := bd (show (intsOf r).bind (fun is => some (i :: is)) = some is from e)
    cases e
    rw [intsOf_eq q]; rfl
  | .none :: _, _, e => by cases e
  | .bool _ :: _, _, e => by cases e
  | .str _ :: _, _, e => by cases e
  | .list _ :: _, _, e => by cases e
  | .tuple _ :: _, _, e => by cases e
  | .dict _ :: _, _, e => by cases e
theorem tupI_eq {d : D} {ns : List Int} (h : tupI d = some ns) : d = tupD ns ∧ ns ≠ [] := by
  unfold tupI at h
  split at h
  · have := intsOf_eq h
    refine ⟨by rw [this]; rfl, fun z => ?_⟩
    rw [z] at this; cases this
  · cases h
theorem tupsI_eq : ∀ {ds : List D} {ks : List (List Int)}, tupsI ds = some ks → ds = ks.map tupD ∧ ∀ k ∈ ks, k ≠ []
  | [], _, e => by cases e; exact ⟨rfl, fun _ z => nomatch z⟩
  | d :: ds, ks, e => by
    obtain ⟨i, q1, e⟩ := bd e
    obtain ⟨r, q2, e⟩ := bd e
    cases e
    obtain ⟨h1, h2⟩ := tupI_eq q1
    obtain ⟨h3, h4⟩ := tupsI_eq q2
    refine ⟨by rw [h1, h3]; rfl, fun k hk => ?_⟩
    rcases List.mem_cons.mp hk with rfl | hk
    · exact h2
    · exact h4 k hk
def iV : V → Option Int
  | .int i => some i
  | _ => none
def keyV (F : Hp) : V → List Int
  | .ref t => (match F t with
    | some (.tup vs) => vs.filterMap iV
    | _ => [])
  | _ => []
theorem iV_map : ∀ ns : List Int, (ns.map V.int).filterMap iV = ns
  | [] => rfl
  | n :: ns => by simp [iV, iV_map ns]
theorem keyV_dt {K : Fg} {F : Hp} {x : V} {ns : List Int} (h : Dt K F x (tupD ns)) : keyV F x = ns ∧ ∃ t, x = .ref t ∧ F t = some (.tup (ns.map V.int)) := by
  unfold tupD at h
  cases h with
  | tup hf ht =>
    have e : ∀ {vs : List V} {ns : List Int}, DtA K F vs (ns.map .int) → vs = ns.map V.int := fun {vs ns} t => by
      induction ns generalizing vs with
      | nil => cases t; rfl
      | cons n r ih => cases t with
        | cons a b => rw [a.int_inv, ih b]; rfl
    have := e ht
    subst this
    exact ⟨by simp only [keyV, hf]; exact iV_map ns, _, rfl, hf⟩
theorem keyV_dts {K : Fg} {F : Hp} : ∀ {xs : List V} {ks : List (List Int)}, DtA K F xs (ks.map tupD) → xs.map (keyV F) = ks ∧ ∀ x ∈ xs, Dt K F x (tupD (keyV F x)) ∧ keyV F x ∈ ks
  | _, [], .nil => ⟨rfl, fun _ z => nomatch z⟩
  | x :: xs, k :: ks, .cons h t => by
    obtain ⟨h1, h2⟩ := keyV_dts t
    have e := (keyV_dt h).1
    refine ⟨by rw [List.map_cons, e, h1], fun y hy => ?_⟩
    rcases List.mem_cons.mp hy with rfl | hy
    · exact ⟨by rw [e]; exact h, by rw [e]; exact List.mem_cons_self⟩
    · exact ⟨(h2 y hy).1, List.mem_cons_of_mem _ (h2 y hy).2⟩
theorem dt_keyV {K : Fg} {F : Hp} : ∀ {ys : List V}, (∀ y ∈ ys, Dt K F y (tupD (keyV F y))) → DtA K F ys ((ys.map (keyV F)).map tupD)
  | [], _ => .nil
  | y :: ys, h => .cons (h y List.mem_cons_self) (dt_keyV fun z hz => h z (List.mem_cons_of_mem _ hz))
def gSortedT : List D → Option D
  | [.list ds] => (tupsI ds).bind fun ks => some (.list ((sortL ks).map tupD))
  | _ => none
theorem ok_sortedT {K : Fg} : OkAN K (rSortedIT K.fr) gSortedT := fun {B F H σ env xs ds d Q} S h e k => by
  unfold gSortedT at e
  split at e
  · obtain ⟨ks, q, e⟩ := bd e
    cases e
    obtain ⟨v, rfl, h0⟩ := h.one
    obtain ⟨p, vs, rfl, hp, t⟩ := h0.lst S.fh
    obtain ⟨rfl, hne⟩ := tupsI_eq q
    obtain ⟨e1, e2⟩ := keyV_dts t
    refine ⟨p, vs, keyV F, rfl, SqL.of hp, fun x hx => ?_, fun ys r h1 h2 hr => ?_⟩
    · obtain ⟨_, t', rfl, hf⟩ := keyV_dt (e2 x hx).1
      exact ⟨t', rfl, S.fh.tup hf, hne _ (e2 _ hx).2⟩
    · have hpm : (ys.map (keyV F)).Perm ks := by rw [← e1]; exact h2.perm.map _
      have hs : (ys.map (keyV F)).Pairwise LeL := List.pairwise_map.mpr h1
      have := sortedL_eq (hpm.trans (sortL_perm ks).symm) hs (sortL_le ks)
      have dt := dt_keyV (ys := ys) fun y hy => (e2 y (h2.perm.mem_iff.mp hy)).1
      rw [this] at dt
      exact KN.at_new (K := K) k S hr ⟨ys, upd_same, dt⟩
  · cases e
end DL

/-! DLy: sorted(d.items()), the keys whole numbers. -/
namespace DL
open PySem PySem.Spec PyProof.Rows L2
section
variable {prog : Program} {w : World} {A : Around} {s : Shared}
/-- a pair whose first is a whole number -/
def IsFT (h : Heap) (v : Value) (x : Int) : Prop := ∃ a o t y n, v = .ref a ∧ h.get? a = some o ∧ o.cls = .type "tuple" ∧ o.data = .seq #[.int x t, y] n
theorem swo_fst (k : Value → Int) : SrtO.Swo fun v u => decide (k v < k u) := ⟨fun x y h => by simp at h ⊢; omega, fun x y z h1 h2 => by simp at h1 h2 ⊢; omega⟩
theorem ft_cmp {vs : List Value} {k : Value → Int} (hp : ∀ v ∈ vs, IsFT s.heap v (k v)) (inj : ∀ v ∈ vs, ∀ u ∈ vs, k v = k u → v = u) : SrtO.Cmp prog w A s (tuples' true) (fun p => p.1 ∈ vs) (SrtO.lt2 fun v u => decide (k v < k u)) := by
  intro p q hm hm'
  obtain ⟨a, o, t, y, n, e, ho, hc, hd⟩ := hp _ hm
  obtain ⟨a', o', t', y', n', e', ho', hc', hd'⟩ := hp _ hm'
  have ij := inj _ hm _ hm'
  show wpAny (model prog w) A (keyLt' (tuples' true) p.1 q.1) (fun r s' => s' = s ∧ r = decide (k p.1 < k q.1)) (fun _ _ => False) s
  generalize k p.1 = x at hd ij ⊢
  generalize k q.1 = x' at hd' ij ⊢
  rw [e, e'] at ij ⊢
  refine PySem.W.kat_lt ho hd ho' hd' ?_
  show PySem.W.KatLex prog w A true (decide (2 < 2)) _ [(.int x t, .int x' t'), (y, y')] 0 s
  refine PySem.W.kat_cons (SeqAt.EqAt.int_int x t x' t' prog w _ _ ?_)
  refine PySem.W.kat_go (fun e1 => ?_) (fun e1 => ?_)
  · have ex : x = x' := by simpa using e1
    have ea : a = a' := Value.ref.inj (ij ex)
    subst ea
    rw [ho] at ho'; cases ho'
    rw [hd] at hd'
    have ey : y = y' := by
      have := hd'
      simp at this
      exact this.1.2
    subst ey
    refine PySem.W.kat_yes (PySem.W.kat_cons (SeqAt.EqAt.same y prog w _ _ ?_))
    exact PySem.W.kat_yes (PySem.W.kat_nil ⟨rfl, by rw [ex]; simp⟩)
  · exact PySem.W.kat_no (oneLt_int ⟨rfl, rfl⟩)
theorem ft_firsts {h : Heap} : ∀ {vs : List Value}, (∀ v ∈ vs, ∃ x, IsFT h v x) → ∃ fs : List Value, PySem.W.KatTups h vs fs ∧ fs.length = vs.length ∧ ∀ f ∈ fs, ∃ (x : Int) (t : Tok), f = .int x t
  | [], _ => ⟨[], PySem.W.KatTups.nil, rfl, fun _ z => nomatch z⟩
  | v :: vs, hp => by
    obtain ⟨fs, h1, h2, h3⟩ := ft_firsts fun u hu => hp u (List.mem_cons_of_mem _ hu)
    obtain ⟨x, a, o, t, y, n, rfl, ho, hc, hd⟩ := hp v List.mem_cons_self
    exact ⟨.int x t :: fs, PySem.W.KatTups.cons ho hc hd rfl h1, by simp [h2], fun f hf => by
      rcases List.mem_cons.mp hf with rfl | hf
      · exact ⟨x, t, rfl⟩
      · exact h3 f hf⟩
theorem IsFT.keeps {h h' : Heap} {v : Value} {x : Int} (z : IsFT h v x) (kp : ∀ b o, h.get? b = some o → o.cls = .type "tuple" → h'.get? b = some o) : IsFT h' v x := by
  obtain ⟨a, o, t, y, n, e, ho, hc, r⟩ := z
  exact ⟨a, o, t, y, n, e, kp a o ho hc, hc, r⟩
theorem ft_sortable {a : Addr} {vs : List Value} {k : Value → Int} (h0 : 0 < vs.length) (hp : ∀ v ∈ vs, IsFT s.heap v (k v)) (inj : ∀ v ∈ vs, ∀ u ∈ vs, k v = k u → v = u) (ha : ∀ o, s.heap.get? a = some o → o.cls ≠ .type "tuple") : SrtO.SortableO prog w A s a vs fun v u => decide (k v < k u) := by
  intro h' keep
  have hp' : ∀ v ∈ vs, IsFT h' v (k v) := fun v hm => (hp v hm).keeps fun b o e c => keep b o (fun z => by subst z; exact ha o e c) e
  obtain ⟨fs, h1, h2, h3⟩ := ft_firsts fun v hm => ⟨_, hp' v hm⟩
  refine ⟨tuples' true, fun Q E hq => ?_, ft_cmp (s := { s with heap := h' }) hp' inj⟩
  refine PySem.W.kat_kind (T := .type "int") h1 (by omega) (fun f hm => ?_) (by rfl) ?_
  · obtain ⟨x, t, rfl⟩ := h3 f hm
    exact PySem.W.Looks.now
  · have e : (Value.type "int" != Value.type "tuple") = true := by first | decide +kernel | rfl | decide
    rw [e]
    exact hq
end
end DL

/-! DLz: sorted(d.items()). -/
namespace DL
open PySem PySem.Spec PyProof.Rows L2 LiI
abbrev LeK (a b : Key × V) : Prop := ∃ i j : Int, a.1 = .inl i ∧ b.1 = .inl j ∧ i ≤ j
def rSItems : V → Hp → VK → Prop := fun x H Q => ∃ (d : Addr) (kvs : List (Key × V)) (ks : List Int), x = .ref d ∧ Rd H d (.dK kvs) ∧ kvs.map (·.1) = ks.map Sum.inl ∧ ks.Nodup ∧
  ∀ (H' : Hp) (p : Addr) (ts : List Addr) (kvs' : List (Key × V)), (∀ b o, H b = some o → H' b = some o) → (∀ b u, H' b = some u → b ≠ p → b ∉ ts → H b = some u) → H p = none → (∀ t ∈ ts, H t = none) → p ∉ ts → kvs'.Perm kvs → kvs'.Pairwise LeK → H' p = some (.lst (ts.map V.ref)) → Paired (fun (t : Addr) (q : Key × V) => H' t = some (.tup [kV q.1, q.2])) ts kvs' → Q (.ref p) H'
def tSItems (te : TE) : TE := fun σ H Q => te σ H fun x H1 => rSItems x H1 Q
section
variable {X : Cx} {Tb : TbT} {e : Expr} {te : TE} {p apos cpos pos : Pos}
theorem items_put {pins : List (Addr × Obj)} {σ : L2.St} {H : Hp} {s : Shared} {h' : Heap} {tk : Nat} {kvs : List (Key × V)} {vs : List (Key × Value)} {as : List Addr} (I : Inv X pins σ H s) (kv : KV kvs vs)
    (hk : ∀ b o, s.heap.get? b = some o → h'.get? b = some o) (hl : as.length = vs.length) (hG : PySem.W.KdxG (mixKind X.prog X.w) vs s.heap.objs.size h' as) :
    (∀ b o, H b = some o → putT H as kvs b = some o) ∧ (∀ t ∈ as, H t = none) ∧ as.Nodup ∧ Paired (fun (t : Addr) (q : Key × V) => putT H as kvs t = some (.tup [kV q.1, q.2])) as kvs ∧ Inv X pins σ (putT H as kvs) { s with heap := h', toks := tk } := by
  have lk : kvs.length = vs.length := Paired.length kv
  have nd : as.Nodup := List.Pairwise.imp (fun {a b} (h : a < b) => Nat.ne_of_lt h) hG.rise
  have new : ∀ t ∈ as, H t = none := fun t ht => I.hok.fresh (Nat.le_of_lt (hG.above t ht))
  have atP := putT_at as kvs H (by omega) nd
  have off : ∀ b, b ∉ as → putT H as kvs b = H b := fun b h1 => putT_off as kvs _ h1
  have low : ∀ b o, s.heap.get? b = some o → b ∉ as := fun b o e z => absurd (Heap.lt_size e) (Nat.not_lt.mpr (Nat.le_of_lt (hG.above b z)))
  have kp : ∀ b u, H b = some u → (putT H as kvs) b = some u := fun b u e => by
    rw [off b (fun z => by rw [new b z] at e; cases e)]
    exact e
  refine ⟨kp, new, nd, atP, ?_⟩
  refine I.call' (ch := []) rfl ⟨fun b o q _ _ _ => hk b o q, fun b o q _ _ _ => ⟨o.slots, hk b o q⟩, fun b o q n _ => ?_, fun b o q _ => ⟨o, hk b o q⟩, fun b xs q => kp b _ q, fun b o u q => kp b _ q, fun b ps q => ⟨#[], by rw [kp b _ q]; simp⟩⟩ (fun b u q => ?_) I.bare fun b z => by simp at z
  · rw [off b (low b o q)]
    exact n
  · by_cases hb : b ∈ as
    · obtain ⟨j, pk, e1, e2, e3⟩ := paired_ix atP hb
      rw [e3] at q
      cases q
      obtain ⟨key, k, x, f1, f2, f3⟩ := hG.pairs j b e1
      obtain ⟨qv, g1, g2, g3⟩ := LiI.paired_get kv e2
      rw [f1] at g1
      cases g1
      have rk : RelV (kV pk.1) key := by
        rw [g2]
        exact relV_key (show keyIs k key = true from f2)
      exact ⟨by show 2 ≤ sizeLine; decide, [key, x], .cons rk (.cons g3 .nil), ⟨_, f3, rfl, _, rfl⟩⟩
    · rw [off b hb] at q
      exact (I.hok b u q).stay (fun d v _ y => hk d v y) (fun d y => kp d _ y) fun d xs y => kp d _ y
theorem refs_all : ∀ {out : List Value}, (∀ u ∈ out, ∃ a, u = Value.ref a) → ∃ ts : List Addr, out = ts.map Value.ref
  | [], _ => ⟨[], rfl⟩
  | u :: out, h => by
    obtain ⟨a, rfl⟩ := h u List.mem_cons_self
    obtain ⟨ts, rfl⟩ := refs_all fun v hv => h v (List.mem_cons_of_mem _ hv)
    exact ⟨a :: ts, rfl⟩
theorem perm_ref {ts as : List Addr} (h : (ts.map Value.ref).Perm (as.map Value.ref)) : ts.Perm as := by
  have := h.map (fun v => match v with | Value.ref a => a | _ => (0 : Nat))
  simpa [List.map_map, Function.comp_def] using this
theorem vals_refs : ∀ ts : List Addr, Vals (ts.map V.ref) (ts.map Value.ref)
  | [] => .nil
  | t :: ts => .cons rfl (vals_refs ts)
theorem paired_of_map {R : Addr → Key × V → Prop} {f : Addr → Key × V} : ∀ {ts : List Addr}, (∀ t ∈ ts, R t (f t)) → Paired R ts (ts.map f)
  | [], _ => .nil
  | t :: ts, h => .cons (h t List.mem_cons_self) (paired_of_map fun u hu => h u (List.mem_cons_of_mem _ hu))
theorem pe_sItems (hc : X.calm = true) (he : PE X e te) (hg : Gl X "sorted") (hm : X.mg "sorted" = none) (hv : bootBuiltins "sorted" = some (.builtin "sorted")) (hbase : attributeBase e "items" X.env (eval e X.env) = eval e X.env := by rfl) (hline : (apos.endLine == cpos.line) = true := by rfl)
    (hs : starEach [.Call (.Attribute e "items" apos) [] [] cpos] X.env = (false, eval (.Call (.Attribute e "items" apos) [] [] cpos) X.env) :: starEach [] X.env := by rfl) :
    PE X (.Call (.Name "sorted" p) [.Call (.Attribute e "items" apos) [] [] cpos] [] pos) (tSItems te) := by
  refine ⟨fun pins s σ H Q I hq => ?_⟩
  refine wpAny_Call_Name_kw (ld_blt I hg hm hv ?_)
  refine PyProof.Rows.callWith_builtin1 ?_ hs rfl
  rw [hs]
  show wpAny _ _ (spliced ((false, eval (.Call (.Attribute e "items" apos) [] [] cpos) X.env) :: backTo pos (starEach [] X.env))) _ _ s
  refine Calls.spliced_cons ?_
  refine wpAny_Call_method (T := "dict") (id := "dict.items") hbase rfl hline F.plainAttrs_dict F.slot_dict_items F.type_dict_items (thn (he.run pins s σ H _ I hq) fun u s1 ⟨x, H1, I1, rx, d, kvs, ks, ex, hd, hks, hnd, q⟩ => ?_)
  subst ex
  obtain rfl : u = Value.ref d := rx
  obtain ⟨hz, hs0, vs, kv, hdo⟩ := dk_rd I1.hok hd
  obtain ⟨ep, hat⟩ := hdo.dictAt
  have lk : kvs.length = vs.length := Paired.length kv
  have I2 : Inv X pins σ H1 { s1 with heap := s1.heap.push { cls := .type "dict_items", data := .fields #[.ref d] } } := I1.kept (t' := s1.toks) fun b ob q => Heap.get?_push_of_some _ q
  refine ⟨hdo.typeIs, hdo.mapOf.noDict, ?_⟩
  show wpAny _ _ (callWith cpos (.builtin "dict.items") [.ref d] [] []) _ X.xe s1
  refine method_meetsIn F.slot_dict_items F.entry_dict_items rfl (PySem.evalArgs_none ⟨rfl, hdo.typeIs, F.args_dict_items_1 _, _, meets_dict_items (mixKind X.prog X.w) d hs0, ⟨vs, hdo⟩, ?_⟩)
  refine Calls.spliced_nil ?_
  refine Calls.call_function_entry PyProof.Rows.kind_sorted PyProof.Rows.plain_sorted PyProof.Rows.entry_sorted (PyProof.Rows.args_sorted1 _) ?_
  unfold Builtin.«sorted»
  refine wpAny_bind (m := checkCount "sorted" 1 1 _) (wpAny_pure ?_)
  refine wpAny_bind (PySem.W.kdx_collect (A := X.A.in1) (knd := mixKind X.prog X.w) (kvs := vs) (ep := ep) (I1.ok.hd hc) ⟨_, Heap.get?_push_size _ rfl, rfl, rfl⟩ (hat.push _) (by omega) fun h' tk as hk hl hG => ?_)
  obtain ⟨k1, k2, k3, k4, J⟩ := items_put (tk := tk) I2 kv hk hl hG
  refine wpAny_bind (wpAny_newList ?_ (by rw [List.length_map]; omega))
  have hoL : (h'.push (seqObj "list" (as.map Value.ref).toArray 0)).get? h'.objs.size = some (seqObj "list" (as.map Value.ref).toArray 0) := Heap.get?_push_size _ rfl
  show wpAny _ _ _ _ _ { s1 with heap := h'.push (seqObj "list" (as.map Value.ref).toArray 0), toks := tk }
  -- the firsts
  have hkey : ∀ (j : Nat) (a : Addr), as[j]? = some a → ∃ (i : Int) (v : V), kvs[j]? = some (.inl i, v) ∧ ks[j]? = some i ∧ IsFT h' (.ref a) i := fun j a ea => by
    obtain ⟨key, k, x, f1, f2, f3⟩ := hG.pairs j a ea
    obtain ⟨hj, _⟩ := List.getElem?_eq_some_iff.mp f1
    obtain ⟨⟨kk, vv⟩, e2⟩ : ∃ q, kvs[j]? = some q := ⟨kvs[j]'(by omega), List.getElem?_eq_getElem (by omega)⟩
    obtain ⟨qv, g1, g2, g3⟩ := LiI.paired_get kv e2
    rw [f1] at g1
    cases g1
    have e3 : (kvs.map (·.1))[j]? = some kk := by rw [List.getElem?_map, e2]; rfl
    rw [hks, List.getElem?_map] at e3
    cases e4 : ks[j]? with
    | none => rw [e4] at e3; cases e3
    | some i =>
      rw [e4] at e3
      have e5 : Sum.inl i = kk := Option.some.inj e3
      subst e5
      have g2 : (Sum.inl i : Key) = k := g2
      subst g2
      rcases keyIs_shape (show keyIs (Sum.inl i) key = true from f2) with ⟨i', t, ek, ev⟩ | ⟨z, t, ek, ev⟩
      · cases ek
        subst ev
        exact ⟨i, vv, e2, rfl, a, _, t, x, 0, rfl, f3, rfl, rfl⟩
      · cases ek
  have la : as.length = kvs.length := by omega
  have lks : ks.length = kvs.length := by have := congrArg List.length hks; simpa using this.symm
  obtain ⟨kk, hkk⟩ : ∃ kk : Addr → Int, kk = fun a => ks.getD (as.idxOf a) 0 := ⟨_, rfl⟩
  obtain ⟨kq, hkq⟩ : ∃ kq : Addr → Key × V, kq = fun a => kvs.getD (as.idxOf a) (.inl 0, .non) := ⟨_, rfl⟩
  obtain ⟨kf, hkf⟩ : ∃ kf : Value → Int, kf = fun v => match v with | .ref a => kk a | _ => 0 := ⟨_, rfl⟩
  have kfr : ∀ a : Addr, kf (.ref a) = kk a := fun a => by rw [hkf]
  have hix : ∀ a ∈ as, as[as.idxOf a]? = some a := fun a ha => by
    have hlt := List.idxOf_lt_length_of_mem ha
    rw [List.getElem?_eq_getElem hlt, List.getElem_idxOf hlt]
  have hin : ∀ a ∈ as, ∃ v, kq a = (.inl (kk a), v) ∧ IsFT h' (.ref a) (kk a) ∧ ks[as.idxOf a]? = some (kk a) := fun a ha => by
    obtain ⟨i, v, e1, e2, e3⟩ := hkey _ a (hix a ha)
    have z : kk a = i := by rw [hkk]; simp [List.getD, e2]
    exact ⟨v, by rw [z, hkq]; simp [List.getD, e1], by rw [z]; exact e3, by rw [z]; exact e2⟩
  have hmap : as.map kq = kvs := by
    refine List.ext_getElem (by rw [List.length_map]; exact la) fun i h1 h2 => ?_
    rw [List.getElem_map]
    have hi : as.idxOf (as[i]'(by omega)) = i := k3.idxOf_getElem i (by omega)
    have hq2 : kq (as[i]'(by omega)) = kvs.getD i (.inl 0, .non) := by rw [hkq]; show kvs.getD (as.idxOf _) _ = _; rw [hi]
    rw [hq2]
    simp [List.getD, h2]
  have hsz : (as.map Value.ref).length ≤ sizeLine := by rw [List.length_map]; omega
  have inj : ∀ v ∈ as.map Value.ref, ∀ u ∈ as.map Value.ref, kf v = kf u → v = u := fun v hv u hu e => by
    obtain ⟨a, ha, rfl⟩ := List.mem_map.mp hv
    obtain ⟨b, hb, rfl⟩ := List.mem_map.mp hu
    rw [kfr, kfr] at e
    obtain ⟨_, _, _, f1⟩ := hin a ha
    obtain ⟨_, _, _, f2⟩ := hin b hb
    have hij : as.idxOf a = as.idxOf b := by
      rw [e] at f1
      obtain ⟨h1, h1'⟩ := List.getElem?_eq_some_iff.mp f1
      obtain ⟨h2, h2'⟩ := List.getElem?_eq_some_iff.mp f2
      rcases Nat.lt_trichotomy (as.idxOf a) (as.idxOf b) with g | g | g
      · exact absurd (h1'.trans h2'.symm) (List.pairwise_iff_getElem.mp hnd _ _ h1 h2 g)
      · exact g
      · exact absurd (h2'.trans h1'.symm) (List.pairwise_iff_getElem.mp hnd _ _ h2 h1 g)
    have g1 := hix a ha
    have g2 := hix b hb
    rw [hij] at g1
    rw [g1] at g2
    cases g2; rfl
  refine wpAny_bind (wpAny_holding (wpAny_call_entry slot_list_sort ⟨_, hoL, rfl⟩ entry_list_sort (SrtO.list_sort_ord (vs := as.map Value.ref) (swo_fst kf) hoL hsz (fun h2 => ?_) fun out hs hb => ⟨_, rfl, ?_⟩) (args_list_sort _)))
  · refine ft_sortable (by omega) (fun v hv => ?_) inj fun o e c => ?_
    · obtain ⟨a, ha, rfl⟩ := List.mem_map.mp hv
      obtain ⟨_, _, f, _⟩ := hin a ha
      rw [kfr]
      exact f.keeps fun b o e _ => Heap.get?_push_of_some _ e
    · have e' : some o = some (seqObj "list" (as.map Value.ref).toArray 0) := e.symm.trans hoL
      cases e'
      exact absurd (Value.type.inj c) (by decide)
  · have hpm : out.Perm (as.map Value.ref) := hb.perm
    obtain ⟨ts, rfl⟩ : ∃ ts : List Addr, out = ts.map Value.ref := by
      have : ∀ u ∈ out, ∃ a, u = Value.ref a := fun u hu => by
        obtain ⟨a, _, rfl⟩ := List.mem_map.mp (hpm.mem_iff.mp hu)
        exact ⟨a, rfl⟩
      exact refs_all this
    have htp : ts.Perm as := perm_ref hpm
    obtain ⟨n, hn⟩ := sortedHeap_at (vs := as.map Value.ref) (out := (ts.map Value.ref).toArray) hoL
    have old : ∀ b u, h'.get? b = some u → (sortedHeap (h'.push (seqObj "list" (as.map Value.ref).toArray 0)) h'.objs.size (as.map Value.ref) (ts.map Value.ref).toArray).get? b = some u := fun b u e =>
      (sortedHeap_old (Nat.ne_of_lt (Heap.lt_size e)) (Nat.lt_of_lt_of_le (Heap.lt_size e) (by rw [size_push']; omega))).trans (Heap.get?_push_of_some _ e)
    have np : putT H1 as kvs h'.objs.size = none := J.hok.fresh (Nat.le_refl _)
    refine wpAny_pure ⟨_, rfl, .ref h'.objs.size, upd (putT H1 as kvs) h'.objs.size (.lst (ts.map V.ref)), J.laid (t' := tk) old (Nat.le_refl _) ⟨?_, ts.map Value.ref, n, ?_, hn⟩, rfl, ?_⟩
    · rw [List.length_map, htp.length_eq]; omega
    · exact vals_refs ts
    · refine q _ h'.objs.size ts (ts.map kq) (fun b o e => ?_) (fun b u e n1 n2 => by
        rw [upd_ne n1, putT_off as kvs _ (fun z => n2 (htp.mem_iff.mpr z))] at e; exact e) ?_ (fun t ht => k2 t (htp.mem_iff.mp ht)) (fun z => ?_) ?_ ?_ upd_same ?_
      · rw [upd_ne (ne_of_none (k1 b o e) np)]; exact k1 b o e
      · cases e : H1 h'.objs.size with
        | none => rfl
        | some o => have := k1 _ _ e; rw [np] at this; cases this
      · have := htp.mem_iff.mp z
        obtain ⟨j, pk, e1, e2, e3⟩ := paired_ix k4 this
        rw [np] at e3; cases e3
      · rw [← hmap]; exact htp.map kq
      · refine List.pairwise_map.mpr ?_
        have hs' : ts.Pairwise fun a b => decide (kk b < kk a) = false := by
          have := List.pairwise_map.mp hs
          exact this.imp fun {a b} z => by
            have z : decide (kf (.ref b) < kf (.ref a)) = false := z
            rw [kfr, kfr] at z; exact z
        refine List.Pairwise.imp_of_mem (fun {a b} ha hb z => ?_) hs'
        obtain ⟨v, e1, _⟩ := hin a (htp.mem_iff.mp ha)
        obtain ⟨w, e2, _⟩ := hin b (htp.mem_iff.mp hb)
        exact ⟨kk a, kk b, by rw [e1], by rw [e2], by simpa using z⟩
      · refine paired_of_map fun t ht => ?_
        have ha := htp.mem_iff.mp ht
        have nt : t ≠ h'.objs.size := by
          rintro rfl
          obtain ⟨j, pk, e1, e2, e3⟩ := paired_ix k4 ha
          rw [np] at e3; cases e3
        rw [upd_ne nt]
        obtain ⟨j, pk, e1, e2, e3⟩ := paired_ix k4 ha
        rw [e3]
        have hj : j = as.idxOf t := by
          obtain ⟨h1, h1'⟩ := List.getElem?_eq_some_iff.mp e1
          subst h1'
          exact (k3.idxOf_getElem j h1).symm
        subst hj
        have : kq t = pk := by rw [hkq]; simp [List.getD, e2]
        rw [this]
end
/-! ### on data -/
def keyOf (e : D × D) : Int := match e.1 with
  | .int i => i
  | _ => 0
def insE (e : D × D) : List (D × D) → List (D × D)
  | [] => [e]
  | x :: r => if keyOf e ≤ keyOf x then e :: x :: r else x :: insE e r
def sortE : List (D × D) → List (D × D)
  | [] => []
  | x :: r => insE x (sortE r)
theorem insE_perm (i : D × D) : ∀ r : List (D × D), (insE i r).Perm (i :: r)
  | [] => List.Perm.refl _
  | x :: r => by
    unfold insE
    split
    · exact List.Perm.refl _
    · exact ((insE_perm i r).cons x).trans (List.Perm.swap i x r)
theorem sortE_perm : ∀ r : List (D × D), (sortE r).Perm r
  | [] => List.Perm.refl _
  | x :: r => (insE_perm x (sortE r)).trans ((sortE_perm r).cons x)
abbrev LeE (a b : D × D) : Prop := keyOf a ≤ keyOf b
theorem insE_le (i : D × D) : ∀ r : List (D × D), r.Pairwise LeE → (insE i r).Pairwise LeE
  | [], _ => List.pairwise_singleton _ _
  | x :: r, h => by
    obtain ⟨h1, h2⟩ := List.pairwise_cons.mp h
    unfold insE
    split
    · rename_i q
      refine List.pairwise_cons.mpr ⟨fun y hy => ?_, h⟩
      rcases List.mem_cons.mp hy with rfl | hy
      · exact q
      · exact Int.le_trans q (h1 y hy)
    · rename_i q
      refine List.pairwise_cons.mpr ⟨fun y hy => ?_, insE_le i r h2⟩
      rcases List.mem_cons.mp ((insE_perm i r).mem_iff.mp hy) with rfl | hy
      · show keyOf x ≤ keyOf y; omega
      · exact h1 y hy
theorem sortE_le : ∀ r : List (D × D), (sortE r).Pairwise LeE
  | [] => List.Pairwise.nil
  | x :: r => insE_le x _ (sortE_le r)
theorem sortedE_eq : ∀ {a b : List (D × D)}, a.Perm b → (∀ x ∈ a, ∀ y ∈ a, keyOf x = keyOf y → x = y) → a.Pairwise LeE → b.Pairwise LeE → a = b := fun {a b} p inj ha hb =>
  List.Perm.eq_of_pairwise (fun x y hx hy h1 h2 => inj x hx y (p.mem_iff.mpr hy) (Int.le_antisymm h1 h2)) ha hb p
def gSItems : D → Option D
  | .dict es => (keyI es).bind fun ks => if ks.Nodup then some (.list ((sortE es).map prD)) else none
  | _ => none
def Ok1N (K : Fg) (r : V → Hp → VK → Prop) (g : D → Option D) : Prop := ∀ {B : Bs} {F H : Hp} {σ : L2.St} {env : En} {x : V} {a d : D} {Q : VK}, Sl K B F H σ env → Bv K F H x a → g a = some d → KN K B F σ env d Q → r x H Q
theorem op1N_le {K : Fg} {r : V → Hp → VK → Prop} {g : D → Option D} {a : Opd} (ho : Ok1N K r g) : ∀ σ H Q, tN K (op1 g a) σ H Q → tUn r (tO K a) σ H Q := fun σ H Q ⟨B, F, env, d, env', S, ef, k⟩ => by
  obtain ⟨⟨u, e1⟩, q1, ef⟩ := bd ef
  obtain ⟨x, q2, ef⟩ := bd ef
  obtain ⟨d', q3, ef⟩ := bd ef
  cases ef
  exact ⟨B, F, env, u, _, S, q1, fun v F1 H1 S1 s1 h1 => ho S1 (h1.bv S1 q2) q3 fun p F' H' S' s' a1 a2 a3 a5 a4 => k p F' H' S' (s1.trans s') a1 a2 a3 a5 a4⟩
theorem DtK.perm {K : Fg} {F : Hp} : ∀ {kvs kvs' : List (Key × V)} {es : List (D × D)}, kvs'.Perm kvs → DtK K F kvs es → ∃ es', es'.Perm es ∧ DtK K F kvs' es' := fun {kvs kvs' es} p => by
  induction p generalizing es with
  | nil => exact fun t => ⟨es, List.Perm.refl _, t⟩
  | cons x _ ih =>
    intro t
    cases t with
    | cons h t =>
      obtain ⟨es', p', t'⟩ := ih t
      exact ⟨_ :: es', p'.cons _, .cons h t'⟩
  | swap x y l =>
    intro t
    cases t with
    | cons h t =>
      cases t with
      | cons h2 t => exact ⟨_, List.Perm.swap _ _ _, .cons h2 (.cons h t)⟩
  | trans _ _ ih1 ih2 =>
    intro t
    obtain ⟨e1, p1, t1⟩ := ih2 t
    obtain ⟨e2, p2, t2⟩ := ih1 t1
    exact ⟨e2, p2.trans p1, t2⟩
theorem DtK.memE {K : Fg} {F : Hp} : ∀ {kvs : List (Key × V)} {es : List (D × D)}, DtK K F kvs es → ∀ y ∈ es, ∃ k v, (k, v) ∈ kvs ∧ y.1 = kD k ∧ Dt K F v y.2
  | _, _, .nil, _, h => nomatch h
  | _, _, .cons (k := k) (v := v) h t, y, hy => by
    rcases List.mem_cons.mp hy with rfl | hy
    · exact ⟨k, v, List.mem_cons_self, rfl, h⟩
    · obtain ⟨k', v', a, b⟩ := DtK.memE t y hy
      exact ⟨k', v', List.mem_cons_of_mem _ a, b⟩
theorem DtK.leE {K : Fg} {F : Hp} : ∀ {kvs : List (Key × V)} {es : List (D × D)}, DtK K F kvs es → kvs.Pairwise LeK → es.Pairwise LeE
  | _, _, .nil, _ => .nil
  | _, _, .cons (k := k) (d := d) h t, p => by
    obtain ⟨p1, p2⟩ := List.pairwise_cons.mp p
    refine List.pairwise_cons.mpr ⟨fun y hy => ?_, t.leE p2⟩
    obtain ⟨k', v', hm, e1, _⟩ := (DtK.memE t) y hy
    obtain ⟨i, j, ei, ej, hij⟩ := p1 _ hm
    dsimp only at ei ej
    subst ei
    subst ej
    show keyOf (kD (Sum.inl i), d) ≤ keyOf y
    unfold keyOf
    rw [e1]
    exact hij
theorem keyI_inj : ∀ {es : List (D × D)} {ks : List Int}, keyI es = some ks → ks.Nodup → es.map keyOf = ks ∧ ∀ x ∈ es, ∀ y ∈ es, keyOf x = keyOf y → x = y := fun {es ks} h hn => by
  have e : es.map keyOf = ks := by
    clear hn
    induction es generalizing ks with
    | nil => simp [keyI] at h; subst h; rfl
    | cons x r ih =>
      obtain ⟨a, b⟩ := x
      cases a <;> try (simp [keyI] at h; done)
      obtain ⟨is, h1, h2⟩ := bd (show (keyI r).bind _ = some ks from h)
      cases h2
      simp [ih h1, keyOf]
  refine ⟨e, fun x hx y hy q => ?_⟩
  obtain ⟨i, hi, rfl⟩ := List.getElem_of_mem hx
  obtain ⟨j, hj, rfl⟩ := List.getElem_of_mem hy
  subst e
  have : i = j := by
    rcases Nat.lt_trichotomy i j with g | g | g
    · exact absurd (by rw [List.getElem_map, List.getElem_map]; exact q) (List.pairwise_iff_getElem.mp hn i j (by simpa using hi) (by simpa using hj) g)
    · exact g
    · exact absurd (by rw [List.getElem_map, List.getElem_map]; exact q.symm) (List.pairwise_iff_getElem.mp hn j i (by simpa using hj) (by simpa using hi) g)
  subst this
  rfl
theorem ok_sItems {K : Fg} : Ok1N K rSItems gSItems := fun {B F H σ env x a d Q} S h e k => by
  unfold gSItems at e
  split at e
  · rename_i es
    obtain ⟨ks, q, e⟩ := bd e
    split at e
    · rename_i hn
      cases e
      obtain ⟨p, kvs, rfl, hp, t⟩ := h.dk S.fh (keyI_plain q)
      refine ⟨p, kvs, ks, rfl, hp, keyI_dt t q, hn, fun H' p ts kvs' kp ko np nt pt pm pw hl pr => ?_⟩
      obtain ⟨es', pe, t'⟩ := DtK.perm pm t
      obtain ⟨_, inj⟩ := keyI_inj q hn
      have he : es' = sortE es := sortedE_eq (pe.trans (sortE_perm es).symm) (fun x hx y hy => inj x (pe.mem_iff.mp hx) y (pe.mem_iff.mp hy)) (t'.leE pw) (sortE_le es)
      subst he
      obtain ⟨F', hF'⟩ : ∃ F' : Hp, F' = fun a => if a ∈ ts then H' a else F a := ⟨_, rfl⟩
      have fin : ∀ a ∈ ts, F' a = H' a := fun a ha => by rw [hF']; exact if_pos ha
      have fout : ∀ a, a ∉ ts → F' a = F a := fun a ha => by rw [hF']; exact if_neg ha
      have nts : ∀ a o, F a = some o → a ∉ ts := fun a o e z => by rw [S.fh.none (nt a z)] at e; cases e
      have sb : Sub F F' := fun a o e _ => by
        rw [fout a (nts a o e)]; exact e
      have tupd : ∀ a ∈ ts, ∃ xs, H' a = some (.tup xs) := fun a ha => by
        obtain ⟨j, pk, e1, e2, e3⟩ := paired_ix pr ha
        exact ⟨_, e3⟩
      have S' : Sl K B F' H' σ env := by
        refine S.ext (fun a o e => ?_) sb (fun a h1 h2 => ?_) kp (fun a m e => by rw [fout a (nts a _ e)]; exact e) (fun a m e => ?_) (fun a ks e => ?_)
        · by_cases ha : a ∈ ts
          · rw [fin a ha] at e; exact .inl e
          · rw [fout a ha] at e
            rcases S.fh a o e with g | ⟨g, ob, g2⟩ | ⟨g, g2⟩
            · exact .inl (kp _ _ g)
            · exact .inr (.inl ⟨g, ob, kp _ _ g2⟩)
            · refine .inr (.inr ⟨g, ?_⟩)
              cases z : H a with
              | none => exact absurd z g2
              | some u => rw [kp _ _ z]; exact fun z => nomatch z
        · by_cases ha : a ∈ ts
          · refine ⟨nt a ha, fun ob u e z => ?_⟩
            obtain ⟨xs, e'⟩ := tupd a ha
            rw [e'] at z; cases z
          · rw [fout a ha] at h2; exact absurd h1 h2
        · by_cases ha : a ∈ ts
          · obtain ⟨xs, e'⟩ := tupd a ha
            rw [fin a ha, e'] at e; cases e
          · rw [fout a ha] at e; exact e
        · by_cases ha : a ∈ ts
          · rw [fin a ha]; exact e
          · rw [fout a ha]
            refine S.kt a ks (ko a _ e (fun z => ?_) ha)
            rw [z, hl] at e; cases e
      have pF : F' p = none := by rw [fout p pt]; exact S.fh.none np
      have dt : DtA K F' (ts.map V.ref) ((sortE es).map prD) := by
        clear pw pm pe
        have tt := t'.mono sb
        have tin : ∀ a ∈ ts, F' a = H' a := fin
        revert tin tt
        generalize sortE es = es'
        intro tt tin
        clear t' hF' S' pF tupd sb nts fout fin hl pt nt ko
        induction pr generalizing es' with
        | nil => cases tt; exact .nil
        | cons h0 _ ih =>
          cases tt with
          | cons h1 tt =>
            refine .cons (.tup (xs := [_, _]) ?_ (.cons (kD_dt _) (.cons h1 .nil))) (ih _ tt fun a ha => tin a (List.mem_cons_of_mem _ ha))
            rw [tin _ List.mem_cons_self]; exact h0
      exact k p F' H' S' sb pF (S.fresh np) (fun i d' e z => S.neOw np e z) (S.neX np) ⟨ts.map V.ref, hl, dt⟩
    · cases e
  · cases e
theorem de_sItems {X : Cx} {Tb : TbT} {e : Expr} {o : Opd} {p apos cpos pos : Pos} (hc : X.calm = true) (he : PE X e (tO (X.kg Tb) o)) (hg : Gl X "sorted") (hm : X.mg "sorted" = none) (hv : bootBuiltins "sorted" = some (.builtin "sorted")) (hbase : attributeBase e "items" X.env (eval e X.env) = eval e X.env := by rfl) (hline : (apos.endLine == cpos.line) = true := by rfl)
    (hs : starEach [.Call (.Attribute e "items" apos) [] [] cpos] X.env = (false, eval (.Call (.Attribute e "items" apos) [] [] cpos) X.env) :: starEach [] X.env := by rfl) :
    PE X (.Call (.Name "sorted" p) [.Call (.Attribute e "items" apos) [] [] cpos] [] pos) (tN (X.kg Tb) (op1 gSItems o)) := PEi (pe_sItems hc he hg hm hv hbase hline hs) (op1N_le ok_sItems)
end DL

/-! DMa: own trees: put to a name, changed at a place. -/
namespace DL
open PySem L2
theorem units1 {k : Nat} {A : Around} (r : Room k A) : A.units + 1 < cLine := by have := r.un; omega
/-- nobody's nodes -/
def Loose (B : Bs) (F H : Hp) (σ : L2.St) (env : En) (L : Nodes) : Prop := ∀ q ∈ L, H q.1 = some q.2 ∧ F q.1 = none ∧ B.H0 q.1 = none ∧ (∀ i e, IsOw env i e → σ[i]? ≠ some (some (.ref q.1))) ∧ ∀ x ∈ B.X, x.1 ≠ q.1
section
variable {K : Fg} {B : Bs} {F H : Hp} {σ : L2.St} {env : En}
theorem Sl.setT (S : Sl K B F H σ env) {i : Nat} {v : V} {s : Sh} {d : D} {L : Nodes} (hi : i < env.length) (np : ∀ d, env[i]? ≠ some (.pw d)) (t : Tr K F s v d L) (nd : Ndp L) (lo : Loose B F H σ env L) :
    ∃ F', Sub F F' ∧ Sl K B F' H (σ.set i (some v)) (env.set i (.tr s d)) := by
  obtain ⟨F', hF'⟩ : ∃ F' : Hp, F' = fun a => if a ∈ L.map (·.1) then some (.own i) else F a := ⟨_, rfl⟩
  have fin : ∀ a, a ∈ L.map (·.1) → F' a = some (.own i) ∧ F a = none ∧ B.H0 a = none ∧ H a ≠ none := fun a ha => by
    obtain ⟨q, hq, rfl⟩ := List.mem_map.mp ha
    exact ⟨by rw [hF']; exact if_pos ha, (lo q hq).2.1, (lo q hq).2.2.1, by rw [(lo q hq).1]; exact fun z => nomatch z⟩
  have fout : ∀ a, a ∉ L.map (·.1) → F' a = F a := fun a ha => by rw [hF']; exact if_neg ha
  have fo : ∀ a o, F a = some o → F' a = some o := fun a o e => by rw [fout a (fun z => by rw [(fin a z).2.1] at e; cases e)]; exact e
  have sb : Sub F F' := fun a o e _ => fo a o e
  have hs : i < σ.length := S.len ▸ hi
  have ow' : ∀ {j : Nat} {x : D}, IsOw (env.set i (.tr s d)) j x → j ≠ i ∧ IsOw env j x := fun {j x} q => by
    rcases q with q | q
    · rcases set_other hi q with ⟨_, z⟩ | ⟨a, b⟩
      · cases z
      · exact ⟨a, .inl b⟩
    · rcases set_other hi q with ⟨_, z⟩ | ⟨a, b⟩
      · cases z
      · exact ⟨a, .inr b⟩
  refine ⟨F', sb, fun a u e => ?_, by simpa using S.len, fun j x q => ?_, fun j x q => ?_, fun j k x y p a b c d => ?_, fun q hq => ?_, S.f0.trans sb, fun q a b => ?_, S.kp, fun q hq => ⟨(S.lc q hq).1, fo _ _ (S.lc q hq).2⟩, fun q hq => ?_, fun a ob u e h => ?_, fun j s' y q => ?_, fun a m e => ?_, S.gv, fun a ks h => fo _ _ (S.kt a ks h), S.tb⟩
  · by_cases ha : a ∈ L.map (·.1)
    · rw [(fin a ha).1] at e; cases e; exact .inr (.inr ⟨rfl, (fin a ha).2.2.2⟩)
    · rw [fout a ha] at e; exact S.fh a u e
  · rcases set_other hi q with ⟨rfl, z⟩ | ⟨a, b⟩
    · cases z
    · rw [sset_other a]
      obtain ⟨w, h1, h2⟩ := S.fz j x b
      exact ⟨w, h1, h2.mono sb⟩
  · obtain ⟨hj, q⟩ := ow' q
    rw [sset_other hj]
    obtain ⟨p, h1, h2, h3, h4⟩ := S.own j x q
    refine ⟨p, h1, ?_, h3.mono sb fun _ z => z, h4⟩
    rw [fout p (fun z => ?_)]
    · exact h2
    · obtain ⟨r, hr, rfl⟩ := List.mem_map.mp z
      exact (lo r hr).2.2.2.1 j x q h1
  · obtain ⟨hj, a⟩ := ow' a
    obtain ⟨hk, b⟩ := ow' b
    rw [sset_other hj] at c
    rw [sset_other hk] at d
    exact S.ap j k x y p a b c d
  · obtain ⟨⟨x, hx⟩, h2⟩ := S.pm q hq
    have : q.1 ≠ i := by
      rintro z
      rw [z] at hx
      exact np x hx
    rw [List.getElem?_set_ne (Ne.symm this), sset_other this]
    exact ⟨⟨x, hx⟩, h2⟩
  · by_cases ha : q ∈ L.map (·.1)
    · exact (fin q ha).2.2.1
    · rw [fout q ha] at b; exact S.nw q a b
  · obtain ⟨g1, g2, g3, g4⟩ := S.hx q hq
    refine ⟨g1, ?_, g3, fun j x h => by
      obtain ⟨hj, h⟩ := ow' h
      rw [sset_other hj]
      exact g4 j x h⟩
    rw [fout _ (fun z => ?_)]
    · exact g2
    · obtain ⟨r, hr, e⟩ := List.mem_map.mp z
      exact (lo r hr).2.2.2.2 q hq e.symm
  · by_cases ha : a ∈ L.map (·.1)
    · obtain ⟨r, hr, rfl⟩ := List.mem_map.mp ha
      rw [(lo r hr).1] at h
      exact absurd (Option.some.inj h) (t.nz r hr _ _)
    · rw [fout a ha] at e; exact S.lk a ob u e h
  · by_cases hj : j = i
    · subst hj
      have hq : s' = s ∧ y = d := by
        rcases q with q | q
        · rw [List.getElem?_set_self hi] at q; cases q; exact ⟨rfl, rfl⟩
        · rw [List.getElem?_set_self hi] at q; cases q
      obtain ⟨rfl, rfl⟩ := hq
      exact ⟨v, L, by rw [List.getElem?_set_self hs], t.mono sb, nd, fun r hr => ⟨(lo r hr).1, (fin r.1 (List.mem_map.mpr ⟨r, hr, rfl⟩)).1⟩⟩
    · have q : IsTr env j s' y := by
        rcases q with q | q
        · rw [List.getElem?_set_ne (Ne.symm hj)] at q; exact .inl q
        · rw [List.getElem?_set_ne (Ne.symm hj)] at q; exact .inr q
      rw [sset_other hj]
      obtain ⟨w, L', h1, h2, h3, h4⟩ := S.tr j s' y q
      exact ⟨w, L', h1, h2.mono sb, h3, fun r hr => ⟨(h4 r hr).1, fo _ _ (h4 r hr).2⟩⟩
  · by_cases ha : a ∈ L.map (·.1)
    · exact .inl (fin a ha).2.2.1
    · rw [fout a ha] at e; exact S.mr a m e
/-- a name's tree is changed -/
theorem Sl.chgT (S : Sl K B F H σ env) {i : Nat} {v : V} {s s' : Sh} {d d' : D} {L L' : Nodes} {F' H' : Hp} {x : Sv} (q : IsTr env i s d) (hx : (env[i]? = some (.tr s d) ∧ x = .tr s' d') ∨ (env[i]? = some (.tw s d) ∧ x = .tw s' d')) (hv : σ[i]? = some (some v)) (t : Tr K F s v d L) (hL : ∀ q ∈ L, H q.1 = some q.2 ∧ F q.1 = some (.own i))
    (t' : Tr K F' s' v d' L') (nd : Ndp L') (hL' : ∀ q ∈ L', H' q.1 = some q.2 ∧ F' q.1 = some (.own i)) (hF : ∀ a, F' a = F a ∨ (F a = none ∧ H a = none ∧ a ∈ L'.map (·.1)))
    (hH : ∀ a, a ∉ L.map (·.1) → H a ≠ none → H' a = H a) (hN : ∀ a, H a ≠ none → H' a ≠ none) (hz : ∀ a, a ∈ L.map (·.1) → ∀ ob u, H' a ≠ some (.frz ob u)) (hk : ∀ a (ks : List Key), H' a = some (.tup (ks.map kV)) → H a = some (.tup (ks.map kV))) : Sl K B F' H' σ (env.set i x) := by
  have hi : i < env.length := by rcases q with q | q <;> exact (List.getElem?_eq_some_iff.mp q).1
  have mki : ∀ a, a ∈ L.map (·.1) → F a = some (.own i) := fun a ha => by
    obtain ⟨r, hr, rfl⟩ := List.mem_map.mp ha
    exact (hL r hr).2
  have fo : ∀ a o, F a = some o → F' a = some o := fun a o e => by
    rcases hF a with g | ⟨g, _⟩
    · rw [g]; exact e
    · rw [g] at e; cases e
  have sb : Sub F F' := fun a o e _ => fo a o e
  have fn : ∀ a, F a = none → H a ≠ none → F' a = none := fun a e n => by
    rcases hF a with g | ⟨_, g, _⟩
    · rw [g]; exact e
    · exact absurd g n
  have keep : ∀ a o, F a ≠ some (.own i) → H a = some o → H' a = some o := fun a o n e => by
    rw [hH a (fun z => n (mki a z)) (by rw [e]; exact fun z => nomatch z)]; exact e
  have hxi : (env.set i x)[i]? = some x := List.getElem?_set_self hi
  have fl : ∀ {j : Nat} {y : Sv}, (env.set i x)[j]? = some y → (∀ a b, y ≠ .tr a b ∧ y ≠ .tw a b) → j ≠ i ∧ env[j]? = some y := fun {j y} e n => by
    rcases set_other hi e with ⟨_, w⟩ | g
    · rcases hx with ⟨_, hx⟩ | ⟨_, hx⟩
      · rw [hx] at w; exact absurd w (n _ _).1
      · rw [hx] at w; exact absurd w (n _ _).2
    · exact g
  have ow' : ∀ {j : Nat} {y : D}, IsOw (env.set i x) j y → j ≠ i ∧ IsOw env j y := fun {j y} o => by
    rcases o with o | o
    · obtain ⟨a, b⟩ := fl o (fun _ _ => ⟨(by intro z; cases z), (by intro z; cases z)⟩)
      exact ⟨a, .inl b⟩
    · obtain ⟨a, b⟩ := fl o (fun _ _ => ⟨(by intro z; cases z), (by intro z; cases z)⟩)
      exact ⟨a, .inr b⟩
  refine ⟨fun a u e => ?_, by simpa using S.len, fun j y e => ?_, fun j y o => ?_, fun j k y w p a b => S.ap j k y w p (ow' a).2 (ow' b).2, fun r hr => ?_, S.f0.trans sb, fun r a b => ?_, fun r u a b c g9 => ?_, fun r hr => ?_, fun r hr => ?_, fun a ob u e h => ?_, fun j s1 y o => ?_, fun a m e => ?_, fun a g => ⟨hN a (S.gv a g).1, (S.gv a g).2⟩, fun a ks h => fo _ _ (S.kt a ks (hk a ks h)), ⟨tabs_step S.tb.now fun b o e c => by
      rw [hH b (fun z => ?_) (by rw [e]; exact fun z => nomatch z)]
      · exact e
      · obtain ⟨r, hr, rfl⟩ := List.mem_map.mp z
        rw [(hL r hr).1] at e; cases e
        exact t.ntc r hr c, S.tb.at0, S.tb.nf⟩⟩
  · rcases hF a with g | ⟨g1, g2, g3⟩
    · rw [g] at e
      rcases S.fh a u e with z | ⟨z, ob, w⟩ | ⟨z, w⟩
      · by_cases hm : F a = some (.own i)
        · rw [hm] at e; cases e
          exact .inr (.inr ⟨rfl, hN a (by rw [z]; exact fun z => nomatch z)⟩)
        · exact .inl (keep a _ hm z)
      · have hm : F a ≠ some (.own i) := fun q => by rw [q] at e; cases e; exact z
        exact .inr (.inl ⟨z, ob, keep a _ hm w⟩)
      · exact .inr (.inr ⟨z, hN a w⟩)
    · obtain ⟨r, hr, rfl⟩ := List.mem_map.mp g3
      rw [(hL' r hr).2] at e; cases e
      exact .inr (.inr ⟨rfl, by rw [(hL' r hr).1]; exact fun z => nomatch z⟩)
  · obtain ⟨_, b⟩ := fl e (fun _ _ => ⟨(by intro z; cases z), (by intro z; cases z)⟩)
    obtain ⟨w, h1, h2⟩ := S.fz j y b
    exact ⟨w, h1, h2.mono sb⟩
  · obtain ⟨hj, o⟩ := ow' o
    obtain ⟨p, h1, h2, h3, h4⟩ := S.own j y o
    obtain ⟨u, hu, _⟩ := h3.some
    have hm : F p ≠ some (.own i) := by rw [h2]; exact fun z => nomatch z
    exact ⟨p, h1, fn p h2 (by rw [hu]; exact fun z => nomatch z), h3.mono sb fun w hw => keep p w hm hw, h4⟩
  · obtain ⟨⟨y, hy⟩, h2⟩ := S.pm r hr
    have ne : r.1 ≠ i := fun z => by
      rw [z] at hy
      rcases q with q | q <;> (rw [q] at hy; cases hy)
    exact ⟨⟨y, by rw [List.getElem?_set_ne (Ne.symm ne)]; exact hy⟩, h2⟩
  · rcases hF r with g | ⟨_, g, _⟩
    · rw [g] at b; exact S.nw r a b
    · exact S.fresh g
  · have h0 := S.kp r u a b c g9
    refine keep r u (fun z => ?_) h0
    rcases S.mr r i z with g | g
    · rw [g] at a; cases a
    · exact g9 g
  · obtain ⟨g1, g2⟩ := S.lc r hr
    refine ⟨?_, fo _ _ g2⟩
    rw [hH r.1 (fun z => ?_) (by rw [g1]; exact fun z => nomatch z)]
    · exact g1
    · obtain ⟨r', hr', e⟩ := List.mem_map.mp z
      have := (hL r' hr').1
      rw [e, g1] at this
      exact t.nz r' hr' _ _ (Option.some.inj this).symm
  · obtain ⟨g1, g2, g3, g4⟩ := S.hx r hr
    have hm : F r.1 ≠ some (.own i) := by rw [g2]; exact fun z => nomatch z
    exact ⟨keep _ _ hm g1, fn _ g2 (by rw [g1]; exact fun z => nomatch z), g3, fun j y o => g4 j y (ow' o).2⟩
  · by_cases ha : a ∈ L.map (·.1)
    · exact absurd h (hz a ha ob u)
    · rcases hF a with g | ⟨g1, g2, g3⟩
      · rw [g] at e
        have hn : H a ≠ none := fun z => by rw [S.fh.none z] at e; cases e
        rw [hH a ha hn] at h
        exact S.lk a ob u e h
      · obtain ⟨r, hr, rfl⟩ := List.mem_map.mp g3
        rw [(hL' r hr).1] at h
        exact absurd (Option.some.inj h) (t'.nz r hr _ _)
  · by_cases hj : j = i
    · subst hj
      have hq : s1 = s' ∧ y = d' := by
        rcases hx with ⟨_, rfl⟩ | ⟨_, rfl⟩
        · rcases o with o | o
          · rw [hxi] at o; cases o; exact ⟨rfl, rfl⟩
          · rw [hxi] at o; cases o
        · rcases o with o | o
          · rw [hxi] at o; cases o
          · rw [hxi] at o; cases o; exact ⟨rfl, rfl⟩
      obtain ⟨rfl, rfl⟩ := hq
      exact ⟨v, L', hv, t', nd, hL'⟩
    · have o : IsTr env j s1 y := by
        rcases o with o | o
        · rw [List.getElem?_set_ne (Ne.symm hj)] at o; exact .inl o
        · rw [List.getElem?_set_ne (Ne.symm hj)] at o; exact .inr o
      obtain ⟨w, L1, h1, h2, h3, h4⟩ := S.tr j s1 y o
      refine ⟨w, L1, h1, h2.mono sb, h3, fun r hr => ⟨keep _ _ (fun z => ?_) (h4 r hr).1, fo _ _ (h4 r hr).2⟩⟩
      rw [(h4 r hr).2] at z; cases z; exact hj rfl
  · rcases hF a with g | ⟨_, g, _⟩
    · rw [g] at e; exact S.mr a m e
    · exact .inl (S.fresh g)
end
end DL

/-! DMb: places within trees. -/
namespace DL
open PySem L2
/-- a step into a tree -/
inductive Stp where
  | ky (k : Key) | kt (k : List Key) | ix (n : Nat)
  deriving DecidableEq
def nthSh : Sh → Nat → Option Sh
  | .cn _ s _, 0 => some s
  | .cn _ _ r, n + 1 => nthSh r n
  | _, _ => none
def subSh : Sh → Stp → Option Sh
  | .ls s, .ix _ => some s
  | .dk s, .ky _ => some s
  | .dt s, .kt _ => some s
  | .tp r, .ix n => nthSh r n
  | _, _ => none
def setK (k : Key) (d : D) : List (D × D) → List (D × D)
  | [] => []
  | e :: es => if keyD e.1 = some k then (e.1, d) :: es else e :: setK k d es
def setKT (k : List Key) (d : D) : List (D × D) → List (D × D)
  | [] => []
  | e :: es => if keyT e.1 = some k then (e.1, d) :: es else e :: setKT k d es
def subT : List (D × D) → List Key → Option D
  | (.bool true, .none) :: es, k => findT es k
  | _, _ => none
def subD : D → Stp → Option D
  | .list ds, .ix n => ds[n]?
  | .tuple ds, .ix n => ds[n]?
  | .dict es, .ky k => findK es k
  | .dict es, .kt k => subT es k
  | _, _ => none
def setT' (k : List Key) (d : D) : List (D × D) → List (D × D)
  | (.bool true, .none) :: es => (.bool true, .none) :: setKT k d es
  | x => x
def setD : D → Stp → D → D
  | .list ds, .ix n, d => .list (ds.set n d)
  | .tuple ds, .ix n, d => .tuple (ds.set n d)
  | .dict es, .ky k, d => .dict (setK k d es)
  | .dict es, .kt k, d => .dict (setT' k d es)
  | x, _, _ => x
def StepV (H : Hp) (v : V) (st : Stp) (w : V) : Prop := match st with
  | .ky k => ∃ p kvs, v = .ref p ∧ H p = some (.dK kvs) ∧ valV kvs k = some w
  | .kt k => ∃ p kvs, v = .ref p ∧ H p = some (.dT kvs) ∧ valV kvs k = some w
  | .ix n => ∃ p vs, v = .ref p ∧ (H p = some (.lst vs) ∨ H p = some (.tup vs)) ∧ vs[n]? = some w
theorem StepV.det {H : Hp} {v w u : V} {st : Stp} (h : StepV H v st w) (g : StepV H v st u) : w = u := by
  cases st with
  | ky k =>
    obtain ⟨p, kvs, rfl, h1, h2⟩ := h
    obtain ⟨p', kvs', e, g1, g2⟩ := g
    cases e; rw [h1] at g1; cases g1; rw [h2] at g2; cases g2; rfl
  | kt k =>
    obtain ⟨p, kvs, rfl, h1, h2⟩ := h
    obtain ⟨p', kvs', e, g1, g2⟩ := g
    cases e; rw [h1] at g1; cases g1; rw [h2] at g2; cases g2; rfl
  | ix n =>
    obtain ⟨p, kvs, rfl, h1, h2⟩ := h
    obtain ⟨p', kvs', e, g1, g2⟩ := g
    cases e
    rcases h1 with h1 | h1 <;> rcases g1 with g1 | g1 <;> (rw [h1] at g1; cases g1) <;> (rw [h2] at g2; cases g2; rfl)
section
variable {K : Fg} {F : Hp}
theorem TrA.focus : ∀ {s : Sh} {vs : List V} {ds : List D} {L : Nodes} {n : Nat} {d : D}, TrA K F s vs ds L → ds[n]? = some d →
    ∃ v L1 L2 L3, vs[n]? = some v ∧ L = L1 ++ (L2 ++ L3) ∧ Tr K F s v d L2 ∧ ∀ G d' L2', Sub F G → Tr K G s v d' L2' → TrA K G s vs (ds.set n d') (L1 ++ (L2' ++ L3))
  | _, _, _, _, _, _, .nil, e => by simp at e
  | _, _, _, _, 0, _, .cons (L := L) (M := M) h t, e => by
    simp at e; subst e
    exact ⟨_, [], L, M, rfl, rfl, h, fun G d' L2' z h' => by first | (have := TrA.cons h' (t.mono z); simpa using this) | (have := TrP.cons (f := f0) h' (t.mono z); simpa using this)⟩
  | _, _, _, _, n + 1, d, .cons (L := L) (M := M) h t, e => by
    obtain ⟨v, L1, L2, L3, e1, e2, e3, e4⟩ := TrA.focus (n := n) (d := d) t (by simpa using e)
    subst e2
    exact ⟨v, L ++ L1, L2, L3, by simpa using e1, by simp, e3, fun G d' L2' z h' => by
      have := TrA.cons (h.mono z) (e4 G d' L2' z h')
      simpa using this⟩
theorem TrP.focus : ∀ {r s : Sh} {vs : List V} {ds : List D} {L : Nodes} {n : Nat} {d : D}, TrP K F r vs ds L → ds[n]? = some d → nthSh r n = some s →
    ∃ v L1 L2 L3, vs[n]? = some v ∧ L = L1 ++ (L2 ++ L3) ∧ Tr K F s v d L2 ∧ ∀ G d' L2', Sub F G → Tr K G s v d' L2' → TrP K G r vs (ds.set n d') (L1 ++ (L2' ++ L3))
  | _, _, _, _, _, _, _, .nil, e, _ => by simp at e
  | _, _, _, _, _, 0, _, .cons (f := f0) (L := L) (M := M) h t, e, f => by
    simp at e; subst e
    cases f
    exact ⟨_, [], L, M, rfl, rfl, h, fun G d' L2' z h' => by first | (have := TrA.cons h' (t.mono z); simpa using this) | (have := TrP.cons (f := f0) h' (t.mono z); simpa using this)⟩
  | _, s, _, _, _, n + 1, d, .cons (f := f0) (L := L) (M := M) h t, e, f => by
    obtain ⟨v, L1, L2, L3, e1, e2, e3, e4⟩ := TrP.focus (s := s) (n := n) (d := d) t (by simpa using e) f
    subst e2
    exact ⟨v, L ++ L1, L2, L3, by simpa using e1, by simp, e3, fun G d' L2' z h' => by
      have := TrP.cons (f := f0) (h.mono z) (e4 G d' L2' z h')
      simpa using this⟩
theorem TrK.focus {k : Key} : ∀ {s : Sh} {vs : List (Key × V)} {es : List (D × D)} {L : Nodes} {d : D}, TrK K F s vs es L → findK es k = some d →
    ∃ v L1 L2 L3, valV vs k = some v ∧ L = L1 ++ (L2 ++ L3) ∧ Tr K F s v d L2 ∧ ∀ G d' L2', Sub F G → Tr K G s v d' L2' → TrK K G s vs (setK k d' es) (L1 ++ (L2' ++ L3))
  | _, _, _, _, _, .nil, e => by simp [findK] at e
  | _, _, _, _, d, .cons (k := k') (v := v) (L := L) (M := M) (vs := vs) (d := d0) (ds := ds) h t, e => by
    by_cases hk : k' = k
    · subst hk
      have e : some d0 = some d := by simpa [findK, keyD_kD] using e
      cases e
      exact ⟨v, [], L, M, by simp [valV], rfl, h, fun G d' L2' z h' => by simpa [setK, keyD_kD] using TrK.cons h' (t.mono z)⟩
    · have e' : findK ds k = some d := by simpa [findK, keyD_kD, hk] using e
      obtain ⟨w, L1, L2, L3, e1, e2, e3, e4⟩ := TrK.focus t e'
      subst e2
      refine ⟨w, L ++ L1, L2, L3, by simpa [valV, hk] using e1, by simp, e3, fun G d' L2' z h' => ?_⟩
      have := TrK.cons (k := k') (h.mono z) (e4 G d' L2' z h')
      simpa [setK, keyD_kD, hk] using this
theorem keyT_tup (ks : List Key) : keyT (.tuple (ks.map kD)) = some ks := keysD_kD ks
theorem TrT.focus {k : List Key} : ∀ {s : Sh} {vs : List (List Key × V)} {es : List (D × D)} {L : Nodes} {d : D}, TrT K F s vs es L → findT es k = some d →
    ∃ v L1 L2 L3, valV vs k = some v ∧ L = L1 ++ (L2 ++ L3) ∧ Tr K F s v d L2 ∧ ∀ G d' L2', Sub F G → Tr K G s v d' L2' → TrT K G s vs (setKT k d' es) (L1 ++ (L2' ++ L3))
  | _, _, _, _, _, .nil, e => by simp [findT] at e
  | _, _, _, _, d, .cons (k := k') (v := v) (L := L) (M := M) (vs := vs) (d := d0) (ds := ds) h t, e => by
    by_cases hk : k' = k
    · subst hk
      have e : some d0 = some d := by simpa [findT, keyT_tup] using e
      cases e
      exact ⟨v, [], L, M, by simp [valV], rfl, h, fun G d' L2' z h' => by simpa [setKT, keyT_tup] using TrT.cons h' (t.mono z)⟩
    · have e' : findT ds k = some d := by simpa [findT, keyT_tup, hk] using e
      obtain ⟨w, L1, L2, L3, e1, e2, e3, e4⟩ := TrT.focus t e'
      subst e2
      refine ⟨w, L ++ L1, L2, L3, by simpa [valV, hk] using e1, by simp, e3, fun G d' L2' z h' => ?_⟩
      have := TrT.cons (k := k') (h.mono z) (e4 G d' L2' z h')
      simpa [setKT, keyT_tup, hk] using this
theorem TrK.plain {s : Sh} {vs : List (Key × V)} {es : List (D × D)} {L : Nodes} (h : TrK K F s vs es L) : ∀ {b es'}, es ≠ (.bool b, .none) :: es' := by
  intro b es' z
  cases h with
  | nil => cases z
  | @cons _ k _ _ _ _ _ _ _ _ =>
    injection z with z _
    injection z with z _
    cases k <;> cases z
/-- one step into a tree: what stands there, and the tree with something else there -/
theorem Tr.focus {H : Hp} {s s1 : Sh} {v : V} {d d1 : D} {L : Nodes} {st : Stp} (h : Tr K F s v d L) (hH : ∀ q ∈ L, H q.1 = some q.2) (hs : subSh s st = some s1) (hd : subD d st = some d1) :
    ∃ v1 L1 L2 L3, StepV H v st v1 ∧ L = L1 ++ (L2 ++ L3) ∧ Tr K F s1 v1 d1 L2 ∧ ∀ G d' L2', Sub F G → Tr K G s1 v1 d' L2' → Tr K G s v (setD d st d') (L1 ++ (L2' ++ L3)) := by
  cases h with
  | fz _ => cases st <;> cases hs
  | @ls s p vs ds L t =>
    cases st with
    | ix n =>
      cases hs
      obtain ⟨v1, L1, L2, L3, e1, e2, e3, e4⟩ := t.focus hd
      subst e2
      exact ⟨v1, _ :: L1, L2, L3, ⟨p, vs, rfl, .inl (hH _ List.mem_cons_self), e1⟩, rfl, e3, fun G d' L2' z h' => .ls (e4 G d' L2' z h')⟩
    | _ => cases hs
  | @tp r p vs ds L t =>
    cases st with
    | ix n =>
      obtain ⟨v1, L1, L2, L3, e1, e2, e3, e4⟩ := t.focus hd hs
      subst e2
      exact ⟨v1, _ :: L1, L2, L3, ⟨p, vs, rfl, .inr (hH _ List.mem_cons_self), e1⟩, rfl, e3, fun G d' L2' z h' => .tp (e4 G d' L2' z h')⟩
    | _ => cases hs
  | @dk s p kvs es L t =>
    cases st with
    | ky k =>
      cases hs
      obtain ⟨v1, L1, L2, L3, e1, e2, e3, e4⟩ := t.focus (show findK es k = some d1 from hd)
      subst e2
      refine ⟨v1, _ :: L1, L2, L3, ⟨p, kvs, rfl, hH _ List.mem_cons_self, e1⟩, rfl, e3, fun G d' L2' z h' => ?_⟩
      exact .dk (e4 G d' L2' z h')
    | _ => cases hs
  | @dt s p kvs es L t =>
    cases st with
    | kt k =>
      cases hs
      obtain ⟨v1, L1, L2, L3, e1, e2, e3, e4⟩ := t.focus (show findT es k = some d1 from hd)
      subst e2
      exact ⟨v1, _ :: L1, L2, L3, ⟨p, kvs, rfl, hH _ List.mem_cons_self, e1⟩, rfl, e3, fun G d' L2' z h' => .dt (e4 G d' L2' z h')⟩
    | _ => cases hs
  | ob _ => cases st <;> cases hs
end
/-! ### ways into a tree -/
def subShP : Sh → List Stp → Option Sh
  | s, [] => some s
  | s, st :: π => (subSh s st).bind fun s1 => subShP s1 π
def subDP : D → List Stp → Option D
  | d, [] => some d
  | d, st :: π => (subD d st).bind fun d1 => subDP d1 π
def setDP : D → List Stp → D → D
  | _, [], x => x
  | d, st :: π, x => match subD d st with
    | some d1 => setD d st (setDP d1 π x)
    | none => d
def WalkV (H : Hp) : V → List Stp → V → Prop
  | v, [], w => v = w
  | v, st :: π, w => ∃ u, StepV H v st u ∧ WalkV H u π w
theorem WalkV.det {H : Hp} : ∀ {π : List Stp} {v w u : V}, WalkV H v π w → WalkV H v π u → w = u
  | [], _, _, _, h, g => h.symm.trans g
  | _ :: _, _, _, _, ⟨_, h1, h2⟩, ⟨_, g1, g2⟩ => by
    have := h1.det g1
    subst this
    exact WalkV.det h2 g2
theorem WalkV.snoc {H : Hp} {st : Stp} : ∀ {π : List Stp} {v w u : V}, WalkV H v π w → StepV H w st u → WalkV H v (π ++ [st]) u
  | [], _, _, _, h, g => by cases h; exact ⟨_, g, rfl⟩
  | _ :: _, _, _, _, ⟨x, h1, h2⟩, g => ⟨x, h1, h2.snoc g⟩
theorem subDP_snoc {st : Stp} : ∀ {π : List Stp} {d d1 : D}, subDP d π = some d1 → subDP d (π ++ [st]) = subD d1 st
  | [], _, _, h => by cases h; simp [subDP]
  | s :: π, d, d1, h => by
    obtain ⟨x, h1, h2⟩ := bd h
    simp only [List.cons_append, subDP, h1, Option.bind_some]
    exact subDP_snoc h2
theorem Tr.focusP {K : Fg} {F H : Hp} : ∀ {π : List Stp} {s s1 : Sh} {v : V} {d d1 : D} {L : Nodes}, Tr K F s v d L → (∀ q ∈ L, H q.1 = some q.2) → subShP s π = some s1 → subDP d π = some d1 →
    ∃ v1 L1 L2 L3, WalkV H v π v1 ∧ L = L1 ++ (L2 ++ L3) ∧ Tr K F s1 v1 d1 L2 ∧ ∀ G d' L2', Sub F G → Tr K G s1 v1 d' L2' → Tr K G s v (setDP d π d') (L1 ++ (L2' ++ L3))
  | [], _, _, v, _, _, L, h, _, hs, hd => by
    cases hs; cases hd
    exact ⟨v, [], L, [], rfl, by simp, h, fun G d' L2' z h' => by simpa [setDP] using h'⟩
  | st :: π, s, s1, v, d, d1, L, h, hH, hs, hd => by
    obtain ⟨s2, a1, a2⟩ := bd hs
    obtain ⟨d2, b1, b2⟩ := bd hd
    obtain ⟨v2, L1, L2, L3, e1, rfl, e3, e4⟩ := h.focus hH a1 b1
    obtain ⟨v1, M1, M2, M3, f1, rfl, f3, f4⟩ := Tr.focusP e3 (fun q hq => hH q (List.mem_append_right _ (List.mem_append_left _ hq))) a2 b2
    refine ⟨v1, L1 ++ M1, M2, M3 ++ L3, ⟨v2, e1, f1⟩, by simp, f3, fun G d' L2' z h' => ?_⟩
    have := e4 G _ _ z (f4 G d' L2' z h')
    simp only [setDP, b1]
    simpa using this
end DL

/-! DMc: expressions that change nothing, places, changes at places. -/
namespace DL
open PySem L2
abbrev Qf := En → Option D
/-- a value of the others; nothing at all is changed -/
def tQ (K : Fg) (f : Qf) : TE := fun σ H Q => ∃ B F env d, Sl K B F H σ env ∧ f env = some d ∧ ∀ v, Dt K F v d → Q v H
def qVar (i : Nat) : Qf := fun env => match env[i]? with
  | some (.fz d) => some d
  | _ => none
def qC (d : D) : Qf := fun _ => some d
def PathV (H : Hp) (σ : L2.St) (i : Nat) (π : List Stp) (v : V) : Prop := ∃ v0, σ[i]? = some (some v0) ∧ WalkV H v0 π v
abbrev Plf := En → Option (Nat × List Stp)
/-- a place in a name's own tree -/
def tPl (K : Fg) (pl : Plf) : TE := fun σ H Q => ∃ B F env i π, Sl K B F H σ env ∧ pl env = some (i, π) ∧ ∀ v, PathV H σ i π v → Q v H
def trAt (env : En) (i : Nat) : Option (Sh × D) := match env[i]? with
  | some (.tr s d) => some (s, d)
  | some (.tw s d) => some (s, d)
  | _ => none
theorem trAt_is {env : En} {i : Nat} {s : Sh} {d : D} (h : trAt env i = some (s, d)) : IsTr env i s d := by
  unfold trAt at h
  split at h
  · rename_i q; cases h; exact .inl q
  · rename_i q; cases h; exact .inr q
  · cases h
def setTr (i : Nat) (s : Sh) (d : D) (env : En) : Option En := match env[i]? with
  | some (.tr _ _) => some (env.set i (.tr s d))
  | some (.tw _ _) => some (env.set i (.tw s d))
  | _ => none
def stepOf : D → D → Option Stp
  | .list ds, .int n => if 0 ≤ n ∧ n < ds.length then some (.ix n.toNat) else none
  | .tuple ds, .int n => if 0 ≤ n ∧ n < ds.length then some (.ix n.toNat) else none
  | .dict es, k => match keyD k with
    | some k => if (findK es k).isSome then some (.ky k) else none
    | none => match keyT k with
      | some k => if (subT es k).isSome then some (.kt k) else none
      | none => none
  | _, _ => none
def plVar (i : Nat) : Plf := fun env => (trAt env i).bind fun _ => some (i, [])
def plSub (pl : Plf) (f : Qf) : Plf := fun env => (pl env).bind fun r => (f env).bind fun k => (trAt env r.1).bind fun t => (subDP t.2 r.2).bind fun c => (subShP t.1 r.2).bind fun s => (stepOf c k).bind fun st => (subSh s st).bind fun _ => some (r.1, r.2 ++ [st])
section
variable {K : Fg} {B : Bs} {F H : Hp} {σ : L2.St} {env : En}
/-- what stands at a place -/
theorem Sl.atP (S : Sl K B F H σ env) {i : Nat} {s s1 : Sh} {d d1 : D} {π : List Stp} (q : IsTr env i s d) (hs : subShP s π = some s1) (hd : subDP d π = some d1) :
    ∃ v0 v1 L1 L2 L3, σ[i]? = some (some v0) ∧ WalkV H v0 π v1 ∧ Tr K F s v0 d (L1 ++ (L2 ++ L3)) ∧ Ndp (L1 ++ (L2 ++ L3)) ∧ (∀ q ∈ L1 ++ (L2 ++ L3), H q.1 = some q.2 ∧ F q.1 = some (.own i)) ∧ Tr K F s1 v1 d1 L2 ∧
      ∀ G d' L2', Sub F G → Tr K G s1 v1 d' L2' → Tr K G s v0 (setDP d π d') (L1 ++ (L2' ++ L3)) := by
  obtain ⟨v0, L, h1, h2, h3, h4⟩ := S.tr i s d q
  obtain ⟨v1, L1, L2, L3, e1, rfl, e3, e4⟩ := h2.focusP (fun q hq => (h4 q hq).1) hs hd
  exact ⟨v0, v1, L1, L2, L3, h1, e1, h2, h3, h4, e3, e4⟩
/-- the root of what stands at a place is written anew; new nodes may come -/
theorem Sl.putP (S : Sl K B F H σ env) {i : Nat} {s s1 : Sh} {d d1' : D} {π : List Stp} {v0 : V} {p : Addr} {o o' : HO} {L1 M L3 N : Nodes} {H' : Hp} {env' : En} (q : IsTr env i s d) (hv : σ[i]? = some (some v0))
    (t : Tr K F s v0 d (L1 ++ (((p, o) :: M) ++ L3))) (nd : Ndp (L1 ++ (((p, o) :: M) ++ L3))) (hL : ∀ q ∈ L1 ++ (((p, o) :: M) ++ L3), H q.1 = some q.2 ∧ F q.1 = some (.own i))
    (re : ∀ G d' L2', Sub F G → Tr K G s1 (.ref p) d' L2' → Tr K G s v0 (setDP d π d') (L1 ++ (L2' ++ L3)))
    (t1 : ∀ G, Sub F G → Tr K G s1 (.ref p) d1' ((p, o') :: (M ++ N))) (he : setTr i s (setDP d π d1') env = some env') (ndN : Ndp N) (hN : ∀ n ∈ N, H n.1 = none ∧ H' n.1 = some n.2)
    (hp : H' p = some o') (hH : ∀ a u, a ≠ p → H a = some u → H' a = some u) (hG : ∀ a u, H' a = some u → a ≠ p → a ∉ N.map (·.1) → H a = some u)
    (ho' : ∀ ks : List Key, o' ≠ .tup (ks.map kV) := by intro ks h; cases h) (hNt : ∀ n ∈ N, ∀ ks : List Key, n.2 ≠ .tup (ks.map kV) := by simp) : ∃ F', Sub F F' ∧ Sl K B F' H' σ env' := by
  obtain ⟨F', hF'⟩ : ∃ F' : Hp, F' = fun a => if a ∈ N.map (·.1) then some (.own i) else F a := ⟨_, rfl⟩
  have fin : ∀ a, a ∈ N.map (·.1) → F' a = some (.own i) ∧ F a = none ∧ H a = none := fun a ha => by
    obtain ⟨r, hr, rfl⟩ := List.mem_map.mp ha
    exact ⟨by rw [hF']; exact if_pos ha, S.fh.none (hN r hr).1, (hN r hr).1⟩
  have fout : ∀ a, a ∉ N.map (·.1) → F' a = F a := fun a ha => by rw [hF']; exact if_neg ha
  have fo : ∀ a u, F a = some u → F' a = some u := fun a u e => by rw [fout a (fun z => by rw [(fin a z).2.1] at e; cases e)]; exact e
  have sb : Sub F F' := fun a u e _ => fo a u e
  have t' := re F' d1' _ sb (t1 F' sb)
  have hpL : (p, o) ∈ L1 ++ (((p, o) :: M) ++ L3) := List.mem_append_right _ (List.mem_append_left _ List.mem_cons_self)
  have hpn : H p ≠ none := by rw [(hL _ hpL).1]; exact fun z => nomatch z
  have sub' : ∀ r, r ∈ L1 ++ (((p, o') :: (M ++ N)) ++ L3) → r = (p, o') ∨ r ∈ N ∨ (r ∈ L1 ++ (((p, o) :: M) ++ L3)) := fun r hr => by
    simp only [List.mem_append, List.mem_cons] at hr ⊢
    rcases hr with hr | (hr | hr | hr) | hr
    · exact .inr (.inr (.inl hr))
    · exact .inl hr
    · exact .inr (.inr (.inr (.inl (.inr hr))))
    · exact .inr (.inl hr)
    · exact .inr (.inr (.inr (.inr hr)))
  have nd0 : ((L1.map (·.1)) ++ ((p :: M.map (·.1)) ++ L3.map (·.1))).Nodup := by
    have := nd; unfold Ndp at this; simpa using this
  have ndN' : (N.map (·.1)).Nodup := ndN
  have nN : ∀ a, a ∈ N.map (·.1) → a ∉ (L1.map (·.1)) ++ ((p :: M.map (·.1)) ++ L3.map (·.1)) := fun a ha hb => by
    have hb : a ∈ (L1 ++ (((p, o) :: M) ++ L3)).map (·.1) := by simpa using hb
    obtain ⟨r, hr, rfl⟩ := List.mem_map.mp hb
    have := (hL r hr).1
    rw [(fin _ ha).2.2] at this; cases this
  have nd' : Ndp (L1 ++ (((p, o') :: (M ++ N)) ++ L3)) := by
    unfold Ndp
    have pm : ((L1 ++ (((p, o') :: (M ++ N)) ++ L3)).map (·.1)).Perm (N.map (·.1) ++ ((L1.map (·.1)) ++ ((p :: M.map (·.1)) ++ L3.map (·.1)))) := by
      simp only [List.map_append, List.map_cons, List.cons_append, List.append_assoc]
      refine List.Perm.trans ?_ (List.perm_append_comm_assoc _ _ _)
      refine List.Perm.append_left _ ?_
      refine List.Perm.trans ?_ (List.perm_middle.symm)
      refine List.Perm.cons _ ?_
      exact List.perm_append_comm_assoc _ _ _
    refine pm.nodup_iff.mpr (List.nodup_append.mpr ⟨ndN', nd0, fun a ha b hb e => ?_⟩)
    subst e
    exact nN a ha hb
  -- a node is where it was
  have once : ∀ r ∈ L1 ++ (((p, o) :: M) ++ L3), r.1 = p → r = (p, o) := fun r hr e => by
    have h1 := (hL r hr).1
    have h2 := (hL _ hpL).1
    rw [e, h2] at h1
    exact Prod.ext e (Option.some.inj h1).symm
  have hL' : ∀ r ∈ L1 ++ (((p, o') :: (M ++ N)) ++ L3), H' r.1 = some r.2 ∧ F' r.1 = some (.own i) := fun r hr => by
    rcases sub' r hr with rfl | h | h
    · exact ⟨hp, fo _ _ (hL _ hpL).2⟩
    · exact ⟨(hN r h).2, (fin _ (List.mem_map.mpr ⟨r, h, rfl⟩)).1⟩
    · refine ⟨?_, fo _ _ (hL r h).2⟩
      by_cases e : r.1 = p
      · -- two nodes at p: then it is the new one
        have : r = (p, o') := by
          have hr' : ((L1 ++ (((p, o') :: (M ++ N)) ++ L3)).map (·.1)).Nodup := nd'
          have m1 : (p, o') ∈ L1 ++ (((p, o') :: (M ++ N)) ++ L3) := List.mem_append_right _ (List.mem_append_left _ List.mem_cons_self)
          exact nodup_fst hr' hr m1 e
        rw [this]; exact hp
      · exact hH _ _ e (hL r h).1
  have hx : ∃ x, ((env[i]? = some (.tr s d) ∧ x = .tr s (setDP d π d1')) ∨ (env[i]? = some (.tw s d) ∧ x = .tw s (setDP d π d1'))) ∧ env' = env.set i x := by
    unfold setTr at he
    rcases q with q | q
    · rw [q] at he; cases he; exact ⟨_, .inl ⟨q, rfl⟩, rfl⟩
    · rw [q] at he; cases he; exact ⟨_, .inr ⟨q, rfl⟩, rfl⟩
  obtain ⟨x, hx, rfl⟩ := hx
  refine ⟨F', sb, S.chgT q hx hv t hL t' nd' hL' (fun a => ?_) (fun a ha hn => ?_) (fun a hn => ?_) (fun a ha ob u => ?_) fun a ks e => ?_⟩
  rotate_right
  · by_cases z : a = p
    · subst z; rw [hp] at e; exact absurd (Option.some.inj e) (ho' ks)
    · by_cases z2 : a ∈ N.map (·.1)
      · obtain ⟨r, hr, rfl⟩ := List.mem_map.mp z2
        rw [(hN r hr).2] at e; exact absurd (Option.some.inj e) (hNt r hr ks)
      · exact hG a _ e z z2
  · by_cases z : a ∈ N.map (·.1)
    · refine .inr ⟨(fin a z).2.1, (fin a z).2.2, ?_⟩
      obtain ⟨r, hr, rfl⟩ := List.mem_map.mp z
      refine List.mem_map.mpr ⟨r, ?_, rfl⟩
      exact List.mem_append_right _ (List.mem_append_left _ (List.mem_cons_of_mem _ (List.mem_append_right _ hr)))
    · exact .inl (fout a z)
  · cases e : H a with
    | none => exact absurd e hn
    | some u =>
      refine hH a u (fun z => ha ?_) e
      subst z
      exact List.mem_map.mpr ⟨_, hpL, rfl⟩
  · cases e : H a with
    | none => exact absurd e hn
    | some u =>
      by_cases z : a = p
      · subst z; rw [hp]; exact fun z => nomatch z
      · rw [hH a u z e]; exact fun z => nomatch z
  · obtain ⟨r, hr, rfl⟩ := List.mem_map.mp ha
    by_cases z : r.1 = p
    · rw [z, hp]
      intro w
      exact t'.nz (p, o') (List.mem_append_right _ (List.mem_append_left _ List.mem_cons_self)) ob u (Option.some.inj w)
    · rw [hH _ _ z (hL r hr).1]
      intro w
      exact t.nz r hr ob u (Option.some.inj w)
where
  nodup_fst : ∀ {L : Nodes} {a b : Addr × HO}, (L.map (·.1)).Nodup → a ∈ L → b ∈ L → a.1 = b.1 → a = b
    | [], _, _, _, h, _, _ => nomatch h
    | x :: L, a, b, h, ha, hb, e => by
      obtain ⟨h1, h2⟩ := List.nodup_cons.mp h
      rcases List.mem_cons.mp ha with ea | ha'
      · rcases List.mem_cons.mp hb with eb | hb'
        · rw [ea, eb]
        · rw [ea] at e
          exact absurd (List.mem_map.mpr ⟨b, hb', e.symm⟩) h1
      · rcases List.mem_cons.mp hb with eb | hb'
        · rw [eb] at e
          exact absurd (List.mem_map.mpr ⟨a, ha', e⟩) h1
        · exact nodup_fst h2 ha' hb' e
end
end DL

/-! DMd: the rules for places. -/
namespace DL
open PySem L2
section
variable {X : Cx} {Tb : TbT} {o e b : Expr} {x : Str} {pos apos cpos : Pos}
theorem dq_var (i : Nat) (hN : X.N[i]? = some x := by rfl) (hv : Vis X.env.scope x := by first | exact Or.inl rfl | exact Or.inr (Or.inl rfl) | exact Or.inr (Or.inr rfl)) (hd : (x == ("__debug__" : Str)) = false := by decide)
    (hcd : (x == ("__classdict__" : Str)) = false := by decide) : PE X (.Name x pos) (tQ (X.kg Tb) (qVar i)) := PEi (pe_var hN hv hd hcd) fun σ H Q ⟨B, F, env, d, S, ef, k⟩ => by
  unfold qVar at ef
  split at ef
  · rename_i d' q
    cases ef
    obtain ⟨v, h1, h2⟩ := S.fz i d q
    exact ⟨v, h1, k v h2⟩
  · cases ef
theorem dq_c {v : V} {d : D} (h : PE X e (tC v)) (hd : ∀ F, Dt (X.kg Tb) F v d) : PE X e (tQ (X.kg Tb) (qC d)) := PEi h fun σ H Q ⟨B, F, env, d', S, ef, k⟩ => by
  cases ef
  exact k v (hd F)
theorem dq_int {i : Int} {j : Nat} : PE X (.Constant (.int i) j pos) (tQ (X.kg Tb) (qC (.int i))) := dq_c pe_int fun _ => .int i
theorem dq_bool {b : Bool} {j : Nat} : PE X (.Constant (.bool b) j pos) (tQ (X.kg Tb) (qC (.bool b))) := dq_c pe_bl fun _ => .bl b
theorem dq_none {j : Nat} : PE X (.Constant .none j pos) (tQ (X.kg Tb) (qC .none)) := dq_c pe_non fun _ => .non
theorem dq_str {x : Str} {j : Nat} : PE X (.Constant (.str x) j pos) (tQ (X.kg Tb) (qC (.str x))) := dq_c pe_str fun _ => .str x
theorem dpl_var (i : Nat) (hN : X.N[i]? = some x := by rfl) (hv : Vis X.env.scope x := by first | exact Or.inl rfl | exact Or.inr (Or.inl rfl) | exact Or.inr (Or.inr rfl)) (hd : (x == ("__debug__" : Str)) = false := by decide)
    (hcd : (x == ("__classdict__" : Str)) = false := by decide) : PE X (.Name x pos) (tPl (X.kg Tb) (plVar i)) := PEi (pe_var hN hv hd hcd) fun σ H Q ⟨B, F, env, j, π, S, ef, k⟩ => by
  obtain ⟨⟨s, d⟩, q, ef⟩ := bd ef
  cases ef
  obtain ⟨v, L, h1, _⟩ := S.tr i s d (trAt_is q)
  exact ⟨v, h1, k v ⟨v, h1, rfl⟩⟩
theorem atI_of {α : Type} {xs : List α} {n : Int} {v : α} (h : 0 ≤ n ∧ n < xs.length) (e : xs[n.toNat]? = some v) : atI xs n = some v := by
  have e' : ixN xs.length n = some n.toNat := by
    unfold ixN
    rw [if_pos h.1, if_pos (by omega)]
  simp [atI, e', e]
theorem dpl_sub {pl : Plf} {f : Qf} (hu : X.A.units + 1 < cLine) (ho : PE X o (tPl (X.kg Tb) pl)) (hb : PE X b (tQ (X.kg Tb) f)) (hs : PlainIx b) : PE X (.Subscript o b pos) (tPl (X.kg Tb) (plSub pl f)) :=
  PEi (pe_ix (IxR.or ix_seq (ix_dict hu)) ho hb hs) fun σ H Q ⟨B, F, env, i, π, S, ef, k⟩ => by
    obtain ⟨⟨j, π0⟩, q1, ef⟩ := bd ef
    obtain ⟨kd, q2, ef⟩ := bd ef
    obtain ⟨⟨s, d⟩, q3, ef⟩ := bd ef
    obtain ⟨c, q4, ef⟩ := bd ef
    obtain ⟨s1, q5, ef⟩ := bd ef
    obtain ⟨st, q6, ef⟩ := bd ef
    obtain ⟨s2, q7, ef⟩ := bd ef
    cases ef
    dsimp only at q3 q4 q5
    refine ⟨B, F, env, j, π0, S, q1, fun v hv => ⟨B, F, env, kd, S, q2, fun w hw => ?_⟩⟩
    obtain ⟨v0, v1, L1, L2, L3, h1, h2, h3, h4, h5, h6, h7⟩ := S.atP (trAt_is q3) q5 q4
    obtain ⟨v0', g1, g2⟩ := hv
    rw [h1] at g1; cases g1
    have := g2.det h2
    subst this
    have hH : ∀ q ∈ L2, H q.1 = some q.2 := fun q hq => (h5 q (List.mem_append_right _ (List.mem_append_left _ hq))).1
    have dc : ∃ c1, subD c st = some c1 := by
      unfold stepOf at q6
      split at q6
      · split at q6
        · rename_i hn; cases q6
          exact ⟨_, List.getElem?_eq_getElem (by omega)⟩
        · cases q6
      · split at q6
        · rename_i hn; cases q6
          exact ⟨_, List.getElem?_eq_getElem (by omega)⟩
        · cases q6
      · split at q6
        · split at q6
          · rename_i hk; cases q6
            exact Option.isSome_iff_exists.mp hk
          · cases q6
        · split at q6
          · split at q6
            · rename_i hk; cases q6
              exact Option.isSome_iff_exists.mp hk
            · cases q6
          · cases q6
      · cases q6
    obtain ⟨c1, hc1⟩ := dc
    obtain ⟨v2, _, _, _, st1, _, _, _⟩ := h6.focus hH q7 hc1
    have fin := k v2 ⟨v0, h1, h2.snoc st1⟩
    unfold stepOf at q6
    split at q6
    · split at q6
      · rename_i hn; cases q6
        have : w = _ := hw.int_inv
        subst this
        obtain ⟨p, vs, rfl, hp, hx⟩ := st1
        rcases hp with hp | hp
        · refine .inl (.inl ⟨p, vs, _, v2, rfl, rfl, SqL.of hp, atI_of ⟨hn.1, ?_⟩ hx, fin⟩)
          obtain ⟨hl, _⟩ := List.getElem?_eq_some_iff.mp hx
          omega
        · refine .inl (.inr (.inl ⟨p, vs, _, v2, rfl, rfl, SqT.of hp, atI_of ⟨hn.1, ?_⟩ hx, fin⟩))
          obtain ⟨hl, _⟩ := List.getElem?_eq_some_iff.mp hx
          omega
      · cases q6
    · split at q6
      · rename_i hn; cases q6
        have : w = _ := hw.int_inv
        subst this
        obtain ⟨p, vs, rfl, hp, hx⟩ := st1
        rcases hp with hp | hp
        · refine .inl (.inl ⟨p, vs, _, v2, rfl, rfl, SqL.of hp, atI_of ⟨hn.1, ?_⟩ hx, fin⟩)
          obtain ⟨hl, _⟩ := List.getElem?_eq_some_iff.mp hx
          omega
        · refine .inl (.inr (.inl ⟨p, vs, _, v2, rfl, rfl, SqT.of hp, atI_of ⟨hn.1, ?_⟩ hx, fin⟩))
          obtain ⟨hl, _⟩ := List.getElem?_eq_some_iff.mp hx
          omega
      · cases q6
    · split at q6
      · rename_i ky hky
        split at q6
        · cases q6
          obtain ⟨p, kvs, rfl, hp, hx⟩ := st1
          have hk' := keyD_eq hky
          subst hk'
          have := hw.keyV
          subst this
          refine .inr ⟨p, v2, rfl, ?_, fin⟩
          rw [← hx]
          exact DGet.k hp
        · cases q6
      · split at q6
        · rename_i ks hks
          split at q6
          · cases q6
            obtain ⟨p, kvs, rfl, hp, hx⟩ := st1
            obtain ⟨b, hb1, hb2⟩ : ∃ b, w = .ref b ∧ H b = some (.tup (ks.map kV)) := by
              unfold keyT at hks
              split at hks
              · have hk' := keysD_eq hks
                subst hk'
                cases hw with
                | tup hf ht => exact ⟨_, rfl, by rw [← ht.keysV]; exact S.fh.tup hf⟩
              · cases hks
            subst hb1
            refine .inr ⟨p, v2, rfl, ?_, fin⟩
            rw [← hx]
            exact DGet.t hp hb2
          · cases q6
        · cases q6
    · cases q6
/-- a list at a place takes one more -/
def eAppP (pl : Plf) (f : Qf) : Df := fun env => (pl env).bind fun r => (f env).bind fun x => (trAt env r.1).bind fun t => (subDP t.2 r.2).bind fun c => if subShP t.1 r.2 = some (.ls .fz) then (match c with
  | .list ds => if ds.length < 100000 then (setTr r.1 t.1 (setDP t.2 r.2 (.list (ds ++ [x]))) env).bind fun e => some (.none, e) else none
  | _ => none) else none
theorem TrA.fzs {K : Fg} {F : Hp} : ∀ {vs : List V} {ds : List D} {L : Nodes}, TrA K F .fz vs ds L → L = [] ∧ DtA K F vs ds
  | _, _, _, .nil => ⟨rfl, .nil⟩
  | _, _, _, .cons (.fz h) t => by
    obtain ⟨e, r⟩ := t.fzs
    exact ⟨by rw [e]; rfl, .cons h r⟩
theorem DtA.fzs {K : Fg} {F : Hp} : ∀ {vs : List V} {ds : List D}, DtA K F vs ds → TrA K F .fz vs ds []
  | _, _, .nil => .nil
  | _, _, .cons h t => .cons (L := []) (M := []) (.fz h) t.fzs
theorem de_appP {pl : Plf} {f : Qf} (ho : PE X o (tPl (X.kg Tb) pl)) (he : PE X e (tQ (X.kg Tb) f))
    (hbase : attributeBase o "append" X.env (eval o X.env) = eval o X.env := by rfl)
    (hfew : ((backTo cpos (starEach [e] X.env)).all (fun x => !x.1) && (backToKw cpos (keywordEach [] X.env)).all (fun x => x.1.isSome)
      && decide ([e].length + ([] : List Keyword).length + (if ([] : List Keyword).isEmpty then 0 else 1) < 30)) = true := by rfl)
    (hline : (apos.endLine == cpos.line) = true := by rfl) (hs : starEach [e] X.env = (false, eval e X.env) :: starEach [] X.env := by rfl) (hplain : (backTo cpos (starEach [] X.env)).any (·.1) = false := by rfl) :
    PE X (.Call (.Attribute o "append" apos) [e] [] cpos) (tD (X.kg Tb) (eAppP pl f)) :=
  PEi (pe_bm PySem.F.plainAttrs_list PySem.F.slot_list_append PySem.F.type_list_append mt_append ho (pa_cons he pa_nil hs) hbase hfew hline hs hplain) fun σ H Q ⟨B, F, env, d, env', S, ef, k⟩ => by
    obtain ⟨⟨i, π⟩, q1, ef⟩ := bd ef
    obtain ⟨x, q2, ef⟩ := bd ef
    obtain ⟨⟨s, t⟩, q3, ef⟩ := bd ef
    obtain ⟨c, q4, ef⟩ := bd ef
    split at ef
    · rename_i q5
      split at ef
      · rename_i ds
        split at ef
        · rename_i hl
          obtain ⟨e1, q6, ef⟩ := bd ef
          cases ef
          dsimp only at q3 q4 q5 q6
          obtain ⟨v0, v1, L1, L2, L3, h1, h2, h3, h4, h5, h6, h7⟩ := S.atP (trAt_is q3) q5 q4
          cases h6 with
          | @ls _ p vs _ M ht =>
            obtain ⟨rfl, hd⟩ := ht.fzs
            have hp : H p = some (.lst vs) := (h5 _ (List.mem_append_right _ (List.mem_append_left _ List.mem_cons_self))).1
            refine ⟨B, F, env, i, π, S, q1, fun v hv => ?_⟩
            obtain ⟨v0', g1, g2⟩ := hv
            rw [h1] at g1; cases g1
            have := g2.det h2
            subst this
            refine ⟨.inl ⟨rfl, vs, SqL.of hp⟩, B, F, env, x, S, q2, fun w hw => ?_⟩
            refine ⟨p, vs, w, rfl, rfl, hp, by rw [hd.length]; exact szL' hl, ?_⟩
            obtain ⟨F', sb, S'⟩ := S.putP (N := []) (H' := upd H p (.lst (vs ++ [w]))) (o' := .lst (vs ++ [w])) (trAt_is q3) h1 h3 h4 h5 h7 (fun G sG => by
              have := (hd.append (.cons hw .nil)).mono sG
              simpa using Tr.ls (p := p) this.fzs) q6 List.nodup_nil (fun n hn => nomatch hn) upd_same (fun a u n hu => by rw [upd_ne n]; exact hu) (fun a u e n _ => by rw [upd_ne n] at e; exact e)
            exact k .non F' _ S' sb .non
        · cases ef
      · cases ef
    · cases ef
end
end DL

/-! DMe: dicts within trees. -/
namespace DL
open PySem L2
theorem TrK.fzs {K : Fg} {F : Hp} : ∀ {vs : List (Key × V)} {ds : List (D × D)} {L : Nodes}, TrK K F .fz vs ds L → L = [] ∧ DtK K F vs ds
  | _, _, _, .nil => ⟨rfl, .nil⟩
  | _, _, _, .cons (.fz h) t => by
    obtain ⟨e, r⟩ := t.fzs
    exact ⟨by rw [e]; rfl, .cons h r⟩
theorem DtK.fzs {K : Fg} {F : Hp} : ∀ {vs : List (Key × V)} {ds : List (D × D)}, DtK K F vs ds → TrK K F .fz vs ds []
  | _, _, .nil => .nil
  | _, _, .cons h t => .cons (L := []) (M := []) (.fz h) t.fzs
theorem TrK.length {K : Fg} {F : Hp} : ∀ {s : Sh} {vs : List (Key × V)} {ds : List (D × D)} {L : Nodes}, TrK K F s vs ds L → vs.length = ds.length
  | _, _, _, _, .nil => rfl
  | _, _, _, _, .cons _ t => congrArg Nat.succ t.length
theorem TrK.snoc {K : Fg} {F : Hp} {k : Key} {v : V} {d : D} {N : Nodes} : ∀ {s : Sh} {vs : List (Key × V)} {ds : List (D × D)} {L : Nodes}, TrK K F s vs ds L → Tr K F s v d N → TrK K F s (vs ++ [(k, v)]) (ds ++ [(kD k, d)]) (L ++ N)
  | _, _, _, _, .nil, h => by
    have := TrK.cons (k := k) h (TrK.nil (K := K) (F := F))
    simpa using this
  | _, _, _, _, .cons (k := k') h0 t, h => by
    have := TrK.cons (k := k') h0 (t.snoc (k := k) h)
    simpa using this
theorem TrK.none {K : Fg} {F : Hp} {k : Key} : ∀ {s : Sh} {vs : List (Key × V)} {ds : List (D × D)} {L : Nodes}, TrK K F s vs ds L → findK ds k = .none → valV vs k = .none
  | _, _, _, _, .nil, _ => rfl
  | _, _, _, _, .cons (k := k') (ds := ds) h t, e => by
    by_cases hk : k' = k
    · subst hk
      simp [findK, keyD_kD] at e
    · have e' : findK ds k = .none := by simpa [findK, keyD_kD, hk] using e
      have := TrK.none t e'
      simpa [valV, hk] using this
theorem putK_none {kvs : List (Key × V)} {k : Key} {v : V} (h : valV kvs k = none) : putK kvs k v = kvs ++ [(k, v)] := by
  have h2 : (kvs.any fun kv => decide (kv.1 = k)) = false := by
    cases q : kvs.any fun kv => decide (kv.1 = k) with
    | false => rfl
    | true =>
      obtain ⟨x, hx, hk⟩ := List.any_eq_true.mp q
      have hk : x.1 = k := by simpa using hk
      exfalso
      revert h
      induction kvs with
      | nil => cases hx
      | cons y r ih =>
        intro h
        by_cases hy : y.1 = k
        · simp [valV, hy] at h
        · rcases List.mem_cons.mp hx with rfl | hx'
          · exact hy hk
          · refine ih ?_ hx' (by simpa [valV, hy] using h)
            exact List.any_eq_true.mpr ⟨x, hx', by simpa using hk⟩
  unfold putK
  rw [h2]
  rfl
/-- something is put into a dict at a place -/
def putAt (i : Nat) (π : List Stp) (k x : D) (env : En) : Option En := (trAt env i).bind fun t => (subDP t.2 π).bind fun c => (keyD k).bind fun kk => if subShP t.1 π = some (.dk .fz) then (match c with
  | .dict es => if es.length < 100000 then setTr i t.1 (setDP t.2 π (.dict (putD es kk x))) env else none
  | _ => none) else none
theorem Sl.putAt {K : Fg} {B : Bs} {F H : Hp} {σ : L2.St} {env env' : En} {i : Nat} {π : List Stp} {k x : D} {v y w : V} (S : Sl K B F H σ env) (h : putAt i π k x env = some env') (hv : PathV H σ i π v) (hy : Dt K F y k) (hw : Dt K F w x) :
    ∃ a H', v = .ref a ∧ DPut H a y w H' ∧ ∃ F', Sub F F' ∧ Sl K B F' H' σ env' := by
  obtain ⟨⟨s, t⟩, q3, h'⟩ := bd h
  obtain ⟨c, q4, h''⟩ := bd h'
  obtain ⟨kk, q5, hh⟩ := bd h''
  clear h h' h''
  dsimp only at q4 hh
  split at hh
  · rename_i q6
    split at hh
    · rename_i es
      split at hh
      · rename_i hl
        obtain ⟨v0, v1, L1, L2, L3, h1, h2, h3, h4, h5, h6, h7⟩ := S.atP (trAt_is q3) q6 q4
        obtain ⟨v0', g1, g2⟩ := hv
        rw [h1] at g1; cases g1
        have := g2.det h2
        subst this
        cases h6 with
        | @dk _ p kvs _ M ht =>
          obtain ⟨rfl, hd⟩ := ht.fzs
          have hp : H p = some (.dK kvs) := (h5 _ (List.mem_append_right _ (List.mem_append_left _ List.mem_cons_self))).1
          have hk := keyD_eq q5
          subst hk
          have := hy.keyV
          subst this
          obtain ⟨F', sb, S'⟩ := S.putP (N := []) (H' := upd H p (.dK (putK kvs kk w))) (o' := .dK (putK kvs kk w)) (trAt_is q3) h1 h3 h4 h5 h7 (fun G sG => by
            have := ((hd.put hw kk).mono sG)
            simpa using Tr.dk (p := p) this.fzs) hh List.nodup_nil (fun n hn => nomatch hn) upd_same (fun a u n hu => by rw [upd_ne n]; exact hu) (fun a u e n _ => by rw [upd_ne n] at e; exact e)
          exact ⟨p, _, rfl, DPut.k hp (by rw [hd.length]; exact szL' hl), F', sb, S'⟩
      · cases hh
    · cases hh
  · cases hh
/-- x.setdefault(k, {}) -/
def setdAt (i : Nat) (k : D) (env : En) : Option (List Stp × En) := (keyD k).bind fun kk => (trAt env i).bind fun t => match t with
  | (.dk (.dk .fz), .dict es) => if es.length < 100000 then (match findK es kk with
    | some _ => some ([.ky kk], env)
    | none => (setTr i (.dk (.dk .fz)) (.dict (es ++ [(kD kk, .dict [])])) env).bind fun e => some ([.ky kk], e)) else none
  | _ => none
def sSetdP (i : Nat) (fv : Df) (fk fk2 : Qf) : Sf := fun env => (fv env).bind fun r => (fk r.2).bind fun k => (setdAt i k r.2).bind fun t => (fk2 t.2).bind fun k2 => (putAt i t.1 k2 r.1 t.2).bind fun e => some (.nx e)
section
variable {X : Cx} {Tb : TbT} {e ek ek2 : Expr} {x : Str} {pos p1 p2 p3 p4 apos cpos : Pos}
theorem dS_setdP {wh : Wh} {i : Nat} {fv : Df} {fk fk2 : Qf} (hu : X.A.units + 1 < cLine) (he : PE X e (tD (X.kg Tb) fv)) (hk : PE X ek (tQ (X.kg Tb) fk)) (hk2 : PE X ek2 (tQ (X.kg Tb) fk2)) (hN : X.N[i]? = some x := by rfl) (hv : Vis X.env.scope x := by first | exact Or.inl rfl | exact Or.inr (Or.inl rfl) | exact Or.inr (Or.inr rfl)) (hd : (x == ("__debug__" : Str)) = false := by decide) (hcd : (x == ("__classdict__" : Str)) = false := by decide)
    (m : M2 X (.Name x p1) "setdefault" apos ek (.Dict [] [] p2) cpos := by exact ⟨rfl, rfl, rfl, rfl⟩)
    (hs : swapsWith e (some (.Subscript (.Call (.Attribute (.Name x p1) "setdefault" apos) [ek, .Dict [] [] p2] [] cpos) ek2 p3)) pos.line X.env = pure false := by rfl) :
    PS X (.Assign [.Subscript (.Call (.Attribute (.Name x p1) "setdefault" apos) [ek, .Dict [] [] p2] [] cpos) ek2 p3] e pos) (tS (X.kg Tb) wh (sSetdP i fv fk fk2)) :=
  PSi (ps_dput hu (pe_dsetd (pe_var hN hv hd hcd) hk pe_dnewK m) hk2 he hs) fun E σ H ⟨B, F, env, r, S, ef, k⟩ => by
    obtain ⟨⟨d, e1⟩, q1, ef⟩ := bd ef
    obtain ⟨kd, q2, ef⟩ := bd ef
    obtain ⟨⟨π, e2⟩, q3, ef⟩ := bd ef
    obtain ⟨k2, q4, ef⟩ := bd ef
    obtain ⟨e3, q5, ef⟩ := bd ef
    cases ef
    dsimp only at q2 q3 q4 q5
    refine ⟨B, F, env, d, e1, S, q1, fun v F1 H1 S1 s1 hv1 => ?_⟩
    obtain ⟨kk, a1, q31⟩ := bd q3
    obtain ⟨⟨s, t⟩, a2, q32⟩ := bd q31
    clear q3 q31
    split at q32
    · rename_i es heq
      cases heq
      split at q32
      · rename_i hl
        have it := trAt_is a2
        obtain ⟨v0, L, h1, h2, h3, h4⟩ := S1.tr i _ _ it
        cases h2 with
        | @dk _ p kvs _ M ht =>
          have hp : H1 p = some (.dK kvs) := (h4 _ List.mem_cons_self).1
          have hkd := keyD_eq a1
          subst hkd
          refine ⟨_, h1, p, rfl, .inl ⟨kvs, .inl hp⟩, B, F1, e1, kD kk, S1, q2, fun y hy => ?_⟩
          have := hy.keyV
          subst this
          intro c hc
          have ne : p ≠ c := ne_of_none hp hc
          refine ⟨kvs, kk, by rw [upd_ne ne]; exact hp, rfl, by rw [ht.length]; exact szL' hl, fun w hw => ?_, fun hw => ?_⟩
          · split at q32
            · rename_i d1 hf
              cases q32
              have S2 : Sl (X.kg Tb) B F1 (upd H1 c (.dK [])) σ e1 := S1.laid hc
              refine ⟨B, F1, e1, k2, S2, q4, fun y2 hy2 => ?_⟩
              have pv : PathV (upd H1 c (.dK [])) σ i [.ky kk] w := ⟨_, h1, w, ⟨p, kvs, rfl, by rw [upd_ne ne]; exact hp, hw⟩, rfl⟩
              obtain ⟨a, H', e1', dp, F2, sb, S3⟩ := S2.putAt q5 pv hy2 hv1
              exact ⟨a, H', e1', dp, k _ F2 H' S3 (s1.trans sb)⟩
            · rename_i hf
              rw [ht.none hf] at hw; cases hw
          · split at q32
            · rename_i d1 hf
              obtain ⟨v1, _, _, _, g1, _⟩ := ht.focus hf
              rw [g1] at hw; cases hw
            · obtain ⟨e2', q6, q33⟩ := bd q32
              cases q33
              have hpk := putK_none (v := .ref c) hw
              obtain ⟨F2, sb, S2⟩ := S1.putP (π := []) (L1 := []) (L3 := []) (M := M) (N := [(c, .dK [])]) (o := .dK kvs) (o' := .dK (putK kvs kk (.ref c))) (s1 := .dk (.dk .fz)) (d1' := .dict (es ++ [(kD kk, .dict [])])) (H' := upd (upd H1 c (.dK [])) p (.dK (putK kvs kk (.ref c)))) it h1
                (by simpa using Tr.dk (p := p) ht) (by simpa using h3) (by simpa using h4) (fun G d' L2' _ h' => by simpa [setDP] using h') (fun G sG => by
                  rw [hpk]
                  exact .dk ((ht.mono sG).snoc (.dk .nil))) (by simpa [setDP] using q6) (by unfold Ndp; exact List.pairwise_singleton _ _) (fun n hn => by
                  rw [List.mem_singleton] at hn
                  subst hn
                  exact ⟨hc, by rw [upd_ne (Ne.symm ne)]; exact upd_same⟩) upd_same (fun a u n hu => by rw [upd_ne n, upd_ne (ne_of_none hu hc)]; exact hu) (fun a u e n n2 => by rw [upd_ne n, upd_ne (fun z => n2 (by simp [z]))] at e; exact e)
              refine ⟨B, F2, e2, k2, S2, q4, fun y2 hy2 => ?_⟩
              have pv : PathV (upd (upd H1 c (.dK [])) p (.dK (putK kvs kk (.ref c)))) σ i [.ky kk] (.ref c) := ⟨_, h1, .ref c, ⟨p, _, rfl, upd_same, by rw [hpk]; exact valV_snoc hw⟩, rfl⟩
              obtain ⟨a, H', e1', dp, F3, sb3, S3⟩ := S2.putAt q5 pv hy2 (hv1.mono sb)
              exact ⟨a, H', e1', dp, k _ F3 H' S3 ((s1.trans sb).trans sb3)⟩
      · cases q32
    · cases q32
where
  valV_snoc {kvs : List (Key × V)} {k : Key} {v : V} (h : valV kvs k = none) : valV (kvs ++ [(k, v)]) k = some v := by
    induction kvs with
    | nil => simp [valV]
    | cons y r ih =>
      by_cases hy : y.1 = k
      · simp [valV, hy] at h
      · have := ih (by simpa [valV, hy] using h)
        simpa [valV, hy] using this
end
end DL

/-! DMf: trees made: new objects, names handed on, tuples of these; stored, handed back, put to the others. -/
namespace DL
open PySem L2
abbrev Mf := En → Option (Sh × D × En)
def tM (K : Fg) (f : Mf) : TE := fun σ H Q => ∃ B F env s d env', Sl K B F H σ env ∧ f env = some (s, d, env') ∧ ∀ v L F' H', Sl K B F' H' σ env' → Sub F F' → Tr K F' s v d L → Ndp L → Loose B F' H' σ env' L → Q v H'
def mF (f : Df) : Mf := fun env => (f env).bind fun r => some (.fz, r.1, r.2)
/-- a new object fits a shape -/
def fits : Sh → D → Bool
  | .ls .fz, .list _ => true
  | .ls _, .list [] => true
  | .dk .fz, .dict es => plainTy (.dict es)
  | .dk _, .dict [] => true
  | .dt .fz, .dict ((.bool true, .none) :: _) => true
  | .dt _, .dict [(.bool true, .none)] => true
  | _, _ => false
def mN (s : Sh) (f : Df) : Mf := fun env => (f env).bind fun r => if fits s r.1 = true then some (s, r.1, r.2) else none
/-- a name's own object is handed on: the name is empty then -/
def mOw (s : Sh) (i : Nat) : Mf := fun env => match env[i]? with
  | some (.ow d) => if fits s d = true then some (s, d, env.set i .un) else none
  | _ => none
theorem TrT.fzs' {K : Fg} {F : Hp} : ∀ {vs : List (List Key × V)} {ds : List (D × D)}, DtT K F vs ds → TrT K F .fz vs ds []
  | _, _, .nil => .nil
  | _, _, .cons h t => .cons (L := []) (M := []) (.fz h) (TrT.fzs' t)
theorem own_tree {K : Fg} {F H : Hp} {p : Addr} {d : D} {s : Sh} (h : Own K F H p d) (f : fits s d = true) : ∃ o, H p = some o ∧ Tr K F s (.ref p) d [(p, o)] := by
  unfold fits at f
  split at f
  · obtain ⟨vs, e, t⟩ := h; exact ⟨_, e, .ls t.fzs⟩
  · obtain ⟨vs, e, t⟩ := h; cases t; exact ⟨_, e, .ls .nil⟩
  · rcases h with ⟨kvs, e, t⟩ | ⟨kvs, es', e0, e, t⟩
    · exact ⟨_, e, .dk t.fzs⟩
    · cases e0; cases f
  · rcases h with ⟨kvs, e, t⟩ | ⟨kvs, es', e0, e, t⟩
    · cases t; exact ⟨_, e, .dk .nil⟩
    · cases e0
  · rcases h with ⟨kvs, e, t⟩ | ⟨kvs, es', e0, e, t⟩
    · obtain ⟨k, hk⟩ := t.key _ List.mem_cons_self
      cases k <;> cases hk
    · cases e0; exact ⟨_, e, .dt (TrT.fzs' t)⟩
  · rcases h with ⟨kvs, e, t⟩ | ⟨kvs, es', e0, e, t⟩
    · obtain ⟨k, hk⟩ := t.key _ List.mem_cons_self
      cases k <;> cases hk
    · cases e0; cases t; exact ⟨_, e, .dt .nil⟩
  · cases f
theorem ndp1 (q : Addr × HO) : Ndp [q] := List.pairwise_singleton _ _
section
variable {X : Cx} {Tb : TbT} {e : Expr} {es : List Expr} {x : Str} {pos : Pos}
theorem dm_fz {f : Df} (h : PE X e (tD (X.kg Tb) f)) : PE X e (tM (X.kg Tb) (mF f)) := PEi h fun σ H Q ⟨B, F, env, s, d, env', S, ef, k⟩ => by
  obtain ⟨⟨d', e1⟩, q, ef⟩ := bd ef
  cases ef
  exact ⟨B, F, env, _, _, S, q, fun v F' H' S' s' hd => k v [] F' H' S' s' (.fz hd) List.nodup_nil fun _ z => nomatch z⟩
theorem dm_new {s : Sh} {f : Df} (h : PE X e (tN (X.kg Tb) f)) : PE X e (tM (X.kg Tb) (mN s f)) := PEi h fun σ H Q ⟨B, F, env, s', d, env', S, ef, k⟩ => by
  obtain ⟨⟨d', e1⟩, q, ef⟩ := bd ef
  dsimp only at ef
  split at ef
  · rename_i hf
    cases ef
    refine ⟨B, F, env, _, _, S, q, fun p F' H' S' s' n n0 no nx ow => ?_⟩
    obtain ⟨o, ho, t⟩ := own_tree ow hf
    exact k _ _ F' H' S' s' t (ndp1 _) fun r hr => by
      rw [List.mem_singleton] at hr
      subst hr
      exact ⟨ho, n, n0, no, nx⟩
  · cases ef
theorem Sl.drop {K : Fg} {B : Bs} {F H : Hp} {σ : L2.St} {env : En} {i : Nat} {d : D} (S : Sl K B F H σ env) (e : env[i]? = some (.ow d)) : Sl K B F H σ (env.set i .un) := by
  have hi : i < env.length := (List.getElem?_eq_some_iff.mp e).1
  have ow' : ∀ {j : Nat} {x : D}, IsOw (env.set i .un) j x → IsOw env j x := fun {j x} q => by
    rcases q with q | q
    · rcases set_other hi q with ⟨_, z⟩ | ⟨_, b⟩
      · cases z
      · exact .inl b
    · rcases set_other hi q with ⟨_, z⟩ | ⟨_, b⟩
      · cases z
      · exact .inr b
  refine ⟨S.fh, by simpa using S.len, fun j x q => ?_, fun j x q => S.own j x (ow' q), fun j k x y p a b => S.ap j k x y p (ow' a) (ow' b), fun q hq => ?_, S.f0, S.nw, S.kp, S.lc, fun q hq => ?_, S.lk, fun j s y q => S.tr j s y (set_tr hi (fun _ _ => ⟨(by intro z; cases z), (by intro z; cases z)⟩) q).2, S.mr, S.gv, S.kt, S.tb⟩
  · rcases set_other hi q with ⟨_, z⟩ | ⟨_, b⟩
    · cases z
    · exact S.fz j x b
  · obtain ⟨⟨x, hx⟩, h2⟩ := S.pm q hq
    have : q.1 ≠ i := by
      rintro z
      rw [z, e] at hx; cases hx
    exact ⟨⟨x, by rw [List.getElem?_set_ne (Ne.symm this)]; exact hx⟩, h2⟩
  · obtain ⟨g1, g2, g3, g4⟩ := S.hx q hq
    exact ⟨g1, g2, g3, fun j x h => g4 j x (ow' h)⟩
theorem dm_ow (s : Sh) (i : Nat) (hN : X.N[i]? = some x := by rfl) (hv : Vis X.env.scope x := by first | exact Or.inl rfl | exact Or.inr (Or.inl rfl) | exact Or.inr (Or.inr rfl)) (hd : (x == ("__debug__" : Str)) = false := by decide)
    (hcd : (x == ("__classdict__" : Str)) = false := by decide) : PE X (.Name x pos) (tM (X.kg Tb) (mOw s i)) := PEi (pe_var hN hv hd hcd) fun σ H Q ⟨B, F, env, s', d, env', S, ef, k⟩ => by
  unfold mOw at ef
  split at ef
  · rename_i d' q
    split at ef
    · rename_i hf
      cases ef
      obtain ⟨p, h1, h2, h3, h4⟩ := S.own i d (.inl q)
      obtain ⟨o, ho, t⟩ := own_tree h3 hf
      have hi : i < env.length := (List.getElem?_eq_some_iff.mp q).1
      have n0 : B.H0 p = none := by
        rcases h4 with h4 | ⟨j, hj⟩
        · exact h4
        · obtain ⟨⟨d2, hd2⟩, hs2⟩ := S.pm (j, p) hj
          have := S.ap i j d d2 p (.inl q) (.inr hd2) h1 hs2
          subst this
          rw [q] at hd2; cases hd2
      refine ⟨_, h1, k _ _ F H (S.drop q) (Sub.refl F) t (ndp1 _) fun r hr => ?_⟩
      rw [List.mem_singleton] at hr
      subst hr
      refine ⟨ho, h2, n0, fun j y o' z => ?_, fun y hy z => ?_⟩
      · have o2 : j ≠ i ∧ IsOw env j y := by
          rcases o' with o' | o'
          · rcases set_other hi o' with ⟨_, w⟩ | ⟨a, b⟩
            · cases w
            · exact ⟨a, .inl b⟩
          · rcases set_other hi o' with ⟨_, w⟩ | ⟨a, b⟩
            · cases w
            · exact ⟨a, .inr b⟩
        exact o2.1 (S.ap j i y d p o2.2 (.inl q) z h1)
      · obtain ⟨_, _, _, g4⟩ := S.hx y hy
        exact g4 i d (.inl q) (by rw [z]; exact h1)
    · cases ef
  · cases ef
/-! stored, handed back, put to the others -/
def sSetT (i : Nat) (f : Mf) : Sf := fun env => (f env).bind fun r => (put i (.tr r.1 r.2.1) r.2.2).bind fun e => some (.nx e)
def sRetT (f : Mf) : Sf := fun env => (f env).bind fun r => some (.rm r.1 r.2.1 r.2.2)
def eFz (f : Mf) : Df := fun env => (f env).bind fun r => if r.1.flat = true then some (r.2.1, r.2.2) else none
theorem dS_setT {wh : Wh} {i : Nat} {f : Mf} {pos' : Pos} (hN : X.N.Nodup) (he : PE X e (tM (X.kg Tb) f)) (hi : X.N[i]? = some x := by rfl) (hx : Loc X.env.scope x := by first | exact Or.inl rfl | exact Or.inr rfl) (hs : swapsWith e (some (.Name x pos')) pos.line X.env = pure false := by rfl) (hf : X.fn x = true ∨ X.env.scope.names.lookup x = some .local := by first | exact .inl rfl | exact .inr rfl | assumption) : PS X (.Assign [.Name x pos'] e pos) (tS (X.kg Tb) wh (sSetT i f)) :=
  PSi (ps_set hN hi hx he hs hf) fun E σ H ⟨B, F, env, r, S, ef, k⟩ => by
    obtain ⟨⟨s, d, e1⟩, q1, ef⟩ := bd ef
    obtain ⟨e2, q2, ef⟩ := bd ef
    cases ef
    obtain ⟨h1, h2, rfl⟩ := put_inv q2
    refine ⟨B, F, env, s, d, e1, S, q1, fun v L F' H' S' s' t nd lo => ?_⟩
    obtain ⟨F2, sb, S2⟩ := S'.setT h1 h2 t nd lo
    exact k _ F2 H' S2 (s'.trans sb)
theorem dS_retT {wh : Wh} {f : Mf} (he : PE X e (tM (X.kg Tb) f)) : PS X (.Return (some e) pos) (tS (X.kg Tb) wh (sRetT f)) := PSi (ps_ret he) fun E σ H ⟨B, F, env, r, S, ef, k⟩ => by
  obtain ⟨⟨s, d, e1⟩, q1, ef⟩ := bd ef
  cases ef
  exact ⟨B, F, env, s, d, e1, S, q1, fun v L F' H' S' s' t nd lo => k v L σ F' H' S' s' t nd fun q hq => ⟨(lo q hq).1, (lo q hq).2.1, (lo q hq).2.2.1⟩⟩
/-- nobody's tree is put to the others -/
theorem Sl.frozeL {K : Fg} {B : Bs} {H : Hp} {σ : L2.St} {env : En} {s : Sh} {d : D} {v : V} : ∀ {L : Nodes} {F : Hp}, Sl K B F H σ env → (∀ q ∈ L, Nf q.2) → Ndp L → Loose B F H σ env L → ∃ F', Sub F F' ∧ Sl K B F' H σ env ∧ (∀ q ∈ L, F' q.1 = some q.2) ∧ ∀ a, a ∉ L.map (·.1) → F' a = F a
  | [], F, S, _, _, _ => ⟨F, Sub.refl F, S, fun _ z => (nomatch z), fun _ _ => rfl⟩
  | q :: L, F, S, nf, nd, lo => by
    obtain ⟨h1, h2⟩ := List.nodup_cons.mp (show (q.1 :: L.map (·.1)).Nodup from nd)
    obtain ⟨l1, l2, l3, l4, l5⟩ := lo q List.mem_cons_self
    have S1 := S.froze l1 l2 l3 l4 (fun x hx => l5 x hx) (nf q List.mem_cons_self).1
    obtain ⟨F', sb, S2, k1, k2⟩ := Sl.frozeL (s := s) (d := d) (v := v) (L := L) S1 (fun r hr => nf r (List.mem_cons_of_mem _ hr)) h2 fun r hr => by
      obtain ⟨m1, m2, m3⟩ := lo r (List.mem_cons_of_mem _ hr)
      have ne : r.1 ≠ q.1 := fun z => h1 (List.mem_map.mpr ⟨r, hr, z⟩)
      exact ⟨m1, by rw [upd_ne ne]; exact m2, m3⟩
    refine ⟨F', (Sub.new l2).trans sb, S2, fun r hr => ?_, fun a ha => ?_⟩
    · rcases List.mem_cons.mp hr with rfl | hr
      · rw [k2 _ h1]; exact upd_same
      · exact k1 r hr
    · rw [k2 a (fun z => ha (List.mem_cons_of_mem _ z))]
      exact upd_ne (fun z => ha (by rw [z]; exact List.mem_cons_self))
theorem de_made {f : Mf} (h : PE X e (tM (X.kg Tb) f)) : PE X e (tD (X.kg Tb) (eFz f)) := PEi h fun σ H Q ⟨B, F, env, d, env', S, ef, k⟩ => by
  obtain ⟨⟨s, d', e1⟩, q1, ef⟩ := bd ef
  dsimp only at ef
  split at ef
  · rename_i hf
    cases ef
    refine ⟨B, F, env, s, _, _, S, q1, fun v L F' H' S' s' t nd lo => ?_⟩
    obtain ⟨F2, sb, S2, k1, _⟩ := S'.frozeL (s := s) (d := d) (v := v) (t.nf hf) nd lo
    exact k v F2 H' S2 (s'.trans sb) (t.froze sb hf k1)
  · cases ef
end
end DL

/-! DMg: tuples of trees, calls that hand back trees, repr of a tree. -/
namespace DL
open PySem L2
def Bs.holdL (B : Bs) (L : Nodes) : Bs := { B with X := L ++ B.X }
section
variable {K : Fg} {B : Bs} {F H : Hp} {σ : L2.St} {env : En}
theorem Sl.holdL (S : Sl K B F H σ env) {L : Nodes} (lo : Loose B F H σ env L) : Sl K (B.holdL L) F H σ env :=
  ⟨S.fh, S.len, S.fz, S.own, S.ap, S.pm, S.f0, S.nw, S.kp, S.lc, fun q hq => by
    rcases List.mem_append.mp hq with hq | hq
    · obtain ⟨a, b, c, d, _⟩ := lo q hq
      exact ⟨a, b, c, d⟩
    · exact S.hx q hq, S.lk, S.tr, S.mr, S.gv, S.kt, ⟨S.tb.now, S.tb.at0, S.tb.nf⟩⟩
theorem Sl.unholdL {L : Nodes} (S : Sl K (B.holdL L) F H σ env) : Sl K B F H σ env :=
  ⟨S.fh, S.len, S.fz, S.own, S.ap, S.pm, S.f0, S.nw, S.kp, S.lc, fun q hq => S.hx q (List.mem_append_right _ hq), S.lk, S.tr, S.mr, S.gv, S.kt, ⟨S.tb.now, S.tb.at0, S.tb.nf⟩⟩
end
def evM : List Mf → En → Option (List (Sh × D) × En)
  | [], env => some ([], env)
  | f :: r, env => (f env).bind fun t => (evM r t.2.2).bind fun z => some ((t.1, t.2.1) :: z.1, z.2)
def shP : List (Sh × D) → Sh
  | [] => .nl
  | t :: r => .cn "" t.1 (shP r)
def tMA (K : Fg) (fs : List Mf) : TA := fun σ H Q => ∃ B F env ts env', Sl K B F H σ env ∧ evM fs env = some (ts, env') ∧ ∀ vs L F' H', Sl K B F' H' σ env' → Sub F F' → TrP K F' (shP ts) vs (ts.map (·.2)) L → Ndp L → Loose B F' H' σ env' L → Q vs H'
theorem TrP.length {K : Fg} {F : Hp} : ∀ {s : Sh} {vs : List V} {ds : List D} {L : Nodes}, TrP K F s vs ds L → vs.length = ds.length
  | _, _, _, _, .nil => rfl
  | _, _, _, _, .cons _ t => congrArg Nat.succ t.length
section
variable {X : Cx} {Tb : TbT} {e : Expr} {es : List Expr} {x : Str} {p pos : Pos}
theorem dma_nil : PA X [] (tMA (X.kg Tb) []) := PAi pa_nil fun σ H Q ⟨B, F, env, us, env', S, ef, k⟩ => by
  cases ef
  exact k [] [] F H S (Sub.refl F) .nil List.nodup_nil fun _ z => nomatch z
theorem dma_cons {f : Mf} {fs : List Mf} (ha : PE X e (tM (X.kg Tb) f)) (hr : PA X es (tMA (X.kg Tb) fs)) (hs : starEach (e :: es) X.env = (false, eval e X.env) :: starEach es X.env := by rfl) : PA X (e :: es) (tMA (X.kg Tb) (f :: fs)) :=
  PAi (pa_cons ha hr hs) fun σ H Q ⟨B, F, env, ts, env', S, ef, k⟩ => by
    obtain ⟨⟨s, d, e1⟩, q, ef⟩ := bd ef
    obtain ⟨⟨ts', e2⟩, q2, ef⟩ := bd ef
    cases ef
    refine ⟨B, F, env, s, d, e1, S, q, fun v L F1 H1 S1 s1 t1 nd1 lo1 => ⟨B.holdL L, F1, e1, ts', _, S1.holdL lo1, q2, fun vs L2 F2 H2 S2 s2 t2 nd2 lo2 => ?_⟩⟩
    refine k (v :: vs) (L ++ L2) F2 H2 S2.unholdL (s1.trans s2) (.cons (t1.mono s2) t2) ?_ fun r hr => ?_
    · unfold Ndp
      rw [List.map_append]
      refine List.nodup_append.mpr ⟨nd1, nd2, fun a ha b hb e => ?_⟩
      subst e
      obtain ⟨r1, hr1, rfl⟩ := List.mem_map.mp ha
      obtain ⟨r2, hr2, e⟩ := List.mem_map.mp hb
      exact (lo2 r2 hr2).2.2.2.2 r1 (List.mem_append_left _ hr1) e.symm
    · rcases List.mem_append.mp hr with hr | hr
      · obtain ⟨g1, g2, g3, g4⟩ := S2.hx r (List.mem_append_left _ hr)
        exact ⟨g1, g2, g3, g4, (lo1 r hr).2.2.2.2⟩
      · obtain ⟨g1, g2, g3, g4, g5⟩ := lo2 r hr
        exact ⟨g1, g2, g3, g4, fun y hy => g5 y (List.mem_append_right _ hy)⟩
theorem Tr.isRef {K : Fg} {F : Hp} {s : Sh} {v : V} {d : D} {L : Nodes} (h : Tr K F s v d L) (n : s ≠ .fz) : ∃ p, v = .ref p := by
  cases h <;> first | exact absurd rfl n | exact ⟨_, rfl⟩
theorem TrP.noKeys {K : Fg} {F : Hp} : ∀ {ts : List (Sh × D)} {vs : List V} {ds : List D} {L : Nodes}, TrP K F (shP ts) vs ds L → (ts.any fun t => decide (t.1 ≠ .fz)) = true → ∀ ks : List Key, vs ≠ ks.map kV
  | [], _, _, _, _, h, _ => nomatch h
  | t :: ts, _, _, _, .cons h0 h1, h, ks => by
    intro e
    cases ks with
    | nil => cases e
    | cons k ks =>
      injection e with e1 e2
      simp only [List.any_cons, Bool.or_eq_true, decide_eq_true_eq] at h
      rcases h with h | h
      · obtain ⟨p, rfl⟩ := h0.isRef h
        cases k <;> cases e1
      · exact TrP.noKeys h1 h ks e2
def mTup (fs : List Mf) : Mf := fun env => (evM fs env).bind fun r => if r.1.length ≤ 100000 ∧ (r.1.any fun t => decide (t.1 ≠ .fz)) = true then some (.tp (shP r.1), .tuple (r.1.map (·.2)), r.2) else none
theorem dm_tup {fs : List Mf} {x1 : Nat} (h : PA X es (tMA (X.kg Tb) fs)) : PE X (.Tuple es x1 pos) (tM (X.kg Tb) (mTup fs)) := PEi (pe_tup h) fun σ H Q ⟨B, F, env, s, d, env', S, ef, k⟩ => by
  obtain ⟨⟨ts, e1⟩, q, ef⟩ := bd ef
  dsimp only at ef
  split at ef
  · rename_i hl'
    obtain ⟨hl, hany⟩ := hl'
    cases ef
    refine ⟨B, F, env, ts, _, S, q, fun vs L F' H' S' s' t nd lo => ⟨by rw [t.length, List.length_map]; exact szL hl, fun a ha => ?_⟩⟩
    refine k (.ref a) ((a, .tup vs) :: L) F' _ (S'.laid ha (fun ks z => t.noKeys hany ks (by injection z))) s' (.tp t) ?_ fun r hr => ?_
    · refine List.nodup_cons.mpr ⟨fun z => ?_, nd⟩
      obtain ⟨r, hr, e⟩ := List.mem_map.mp z
      have := (lo r hr).1
      dsimp only at e
      rw [e, ha] at this; cases this
    · rcases List.mem_cons.mp hr with rfl | hr
      · exact ⟨upd_same, S'.fh.none ha, S'.fresh ha, fun i y o => S'.neOw ha o, S'.neX ha⟩
      · obtain ⟨g1, g2⟩ := lo r hr
        exact ⟨by rw [upd_ne (ne_of_none g1 ha)]; exact g1, g2⟩
  · cases ef
/-! calls -/
def eCallM (fl : List Bool) (s : Sh) (g : List D → Option (D × List D)) (os : List Opd) : Mf := fun env => (eCall fl g os env).bind fun r => some (s, r.1, r.2)
theorem callM_le {K : Fg} {E : XK} {fl : List Bool} {s : Sh} {g : List D → Option (D × List D)} {os : List Opd} : ∀ σ H Q, tM K (eCallM fl s g os) σ H Q → tCall (spD K fl (.tr s) g) [] E (tAr K os) σ H Q := fun σ H Q ⟨B, F, env, s0, d, env', S, ef, kk⟩ => by
  obtain ⟨⟨d0, e0⟩, ef0, hh⟩ := bd ef
  clear ef
  cases hh
  obtain ⟨⟨us, e1⟩, q1, ef1⟩ := bd ef0
  obtain ⟨ds, q2, ef2⟩ := bd ef1
  obtain ⟨⟨d', os'⟩, q3, ef3⟩ := bd ef2
  obtain ⟨e2, q4, ef4⟩ := bd ef3
  cases ef4
  refine ⟨B, F, env, us, e1, S, q1, fun vs F1 H1 S1 s1 h1 => ?_⟩
  obtain ⟨M, a, b, c⟩ := callIn_args S1 0 h1 q2
  rw [List.append_nil]
  refine ⟨er F1, ds, _, os', M, er_lk S1.fh, er_no _, S1.kpE, a.mono (er_sub _) (fun _ z => er_none z), apart_of (K := K) (B := B) (F := F) (H := H) (σ := σ) (e := e1) (by rw [b]; exact putBack_le q4), q3, fun v F' H' fh cl kt' s nw kp ok hd => ?_⟩
  have sb := mg_sub cl S1.fh nw
  have mn : ∀ q ∈ M, F1 q.2 = none := a.none
  have kpm : ∀ p o m, F1 p = some (.own m) → H1 p = some o → (∀ j, (j, p) ∉ M) → H' p = some o := fun p o m e h n => kp p o h n (S1.ntF e)
  obtain ⟨L, t, nd, hL⟩ := hd
  have S2 := S1.called q4 b c (mg_lk S1.fh fh mn kpm) (mg_old s) (mg_nw nw) kp (ok.mono sb fun q hq z => by rw [mg_at (fun m w => by rw [mn q hq] at w; cases w)]; exact z) (fun _ _ z => mg_mk z) (mg_new cl) (mg_kt S1.kt S1.fh kt'.kt mn kpm) kt'.tb
  refine kk v L (mg F1 F') H' S2 (s1.trans (mg_old s)) (t.mono sb) nd fun r hr => ?_
  obtain ⟨n1, n2, n0⟩ := hL r hr
  refine ⟨n1, by rw [mg_at (fun m w => by rw [S1.fh.none n0] at w; cases w)]; exact n2, S1.fresh n0, fun i d o z => ?_, S1.neX n0⟩
  obtain ⟨d1, o1⟩ : ∃ d1, IsOw e1 i d1 := by
    rcases putBack_inv q4 with ⟨_, he⟩ | ⟨j, d2, cs, _, q4⟩
    · subst he; exact ⟨d, o⟩
    · obtain ⟨m, p', d0, m1, m2, m3⟩ := c 0 j (by rw [cs]; rfl)
      by_cases hj : i = j
      · subst hj; exact ⟨d0, m2⟩
      · unfold DL.chg at q4
        have hji : j ≠ i := Ne.symm hj
        rcases m2 with m2 | m2
        · rw [m2] at q4; cases q4
          rcases o with o | o
          · exact ⟨d, .inl (by rw [List.getElem?_set_ne hji] at o; exact o)⟩
          · exact ⟨d, .inr (by rw [List.getElem?_set_ne hji] at o; exact o)⟩
        · rw [m2] at q4; cases q4
          rcases o with o | o
          · exact ⟨d, .inl (by rw [List.getElem?_set_ne hji] at o; exact o)⟩
          · exact ⟨d, .inr (by rw [List.getElem?_set_ne hji] at o; exact o)⟩
  exact S1.neOw n0 o1 z
theorem dm_callG {ps : List Str} {k j : Nat} {fl : List Bool} {s : Sh} {g : List D → Option (D × List D)} {os : List Opd} (G : Got X.prog X.w X.K X.mg X.base k x ps (spD (X.kg Tb) fl (.tr s) g)) (hr : Room j X.A) (hg : Gl X x) (ha : PA X (e :: es) (tAr (X.kg Tb) os)) (hj : k ≤ j := by decide) (hdb : (x == ("__debug__" : Str)) = false := by decide) (he : starEach (e :: es) X.env = (false, eval e X.env) :: starEach es X.env := by rfl) (hpl : (backTo pos (starEach es X.env)).any (·.1) = false := by rfl) :
    PE X (.Call (.Name x p) (e :: es) [] pos) (tM (X.kg Tb) (eCallM fl s g os)) := by
  obtain ⟨f, fd, F, m, kp, b⟩ := G.ex
  exact PEi (pe_call (E := E0) F (hr.mono hj) hg m kp b .nil pass0 ha hdb he hpl) callM_le
/-! repr of a name's own tree -/
theorem Sl.view {K : Fg} {B : Bs} {F H : Hp} {σ : L2.St} {env : En} {i : Nat} {s : Sh} {d : D} (S : Sl K B F H σ env) (q : IsTr env i s d) (f : s.flat = true) : ∃ v G, σ[i]? = some (some v) ∧ Lk G H ∧ Dt K G v d := by
  obtain ⟨v, L, h1, h2, h3, h4⟩ := S.tr i s d q
  obtain ⟨G, hG⟩ : ∃ G : Hp, G = fun a => if a ∈ L.map (·.1) then H a else F a := ⟨_, rfl⟩
  have fin : ∀ a, a ∈ L.map (·.1) → G a = H a := fun a ha => by rw [hG]; exact if_pos ha
  have fout : ∀ a, a ∉ L.map (·.1) → G a = F a := fun a ha => by rw [hG]; exact if_neg ha
  have sb : Sub F G := fun a o e m => by
    rw [fout a (fun z => ?_)]
    · exact e
    · obtain ⟨r, hr, rfl⟩ := List.mem_map.mp z
      rw [(h4 r hr).2] at e; cases e; cases m
  refine ⟨v, G, h1, fun a o e => ?_, h2.froze sb f fun r hr => by rw [fin _ (List.mem_map.mpr ⟨r, hr, rfl⟩)]; exact (h4 r hr).1⟩
  by_cases ha : a ∈ L.map (·.1)
  · rw [fin a ha] at e; exact .inl e
  · rw [fout a ha] at e; exact S.fh a o e
def eReprT (i : Nat) : Df := fun env => (trAt env i).bind fun t => if t.1.flat = true then (gRepr t.2).bind fun r => some (r, env) else none
theorem de_reprT {k i : Nat} {p2 : Pos} (gd : X.A.guards = some []) (hr : Room k X.A) (hg : Gl X "repr") (hm : X.mg "repr" = none) (hN : X.N[i]? = some x := by rfl) (hv : Vis X.env.scope x := by first | exact Or.inl rfl | exact Or.inr (Or.inl rfl) | exact Or.inr (Or.inr rfl)) (hd : (x == ("__debug__" : Str)) = false := by decide)
    (hcd : (x == ("__classdict__" : Str)) = false := by decide) (he : starEach [.Name x p2] X.env = [(false, eval (.Name x p2) X.env)] := by rfl) (hpl : (backTo pos (starEach [] X.env)).any (·.1) = false := by rfl) :
    PE X (.Call (.Name "repr" p) [.Name x p2] [] pos) (tD (X.kg Tb) (eReprT i)) :=
  PEi (pe_callB (call_reprD gd hr.units) hg hm (by decide +kernel) (pa_cons (pe_var hN hv hd hcd) pa_nil he) (by decide) (by decide) he hpl) fun σ H Q ⟨B, F, env, d, env', S, ef, k⟩ => by
    obtain ⟨⟨s, t⟩, q1, ef⟩ := bd ef
    dsimp only at ef
    split at ef
    · rename_i hf
      obtain ⟨r, q2, ef⟩ := bd ef
      cases ef
      unfold gRepr at q2
      split at q2
      · rename_i ok
        cases q2
        obtain ⟨v, G, h1, h2, h3⟩ := S.view (trAt_is q1) hf
        exact ⟨v, h1, v, t, G, rfl, h2, h3, ok, k _ F H S (Sub.refl _) (.str _)⟩
      · cases q2
    · cases ef
end
end DL

/-! DMh: sorted of a dict whose keys are tuples of whole numbers; all kinds of sorted in one. -/
namespace DL
open PySem PySem.Spec PyProof.Rows L2
def rSortedDT : List V → Hp → VK → Prop := fun xs H Q => ∃ (a : Addr) (kvs : List (List Key × V)) (ks : List (List Int)), xs = [.ref a] ∧ Rd H a (.dT kvs) ∧ kvs.map (·.1) = ks.map (fun k => k.map Sum.inl) ∧ (∀ k ∈ ks, k ≠ []) ∧
  ∀ (ts : List Addr) (ks' : List (List Int)) (p : Addr), ks'.Perm ks → ks'.Pairwise LeL → Paired (fun (t : Addr) (k : List Int) => H t = some (.tup (k.map V.int))) ts ks' → H p = none → Q (.ref p) (upd H p (.lst (ts.map V.ref)))
theorem kt_addrs {H : Hp} : ∀ {kvs : List (List Key × V)} {xs : List (List Key × Addr × Value)} {ks : List (List Int)}, L2.KT H kvs xs → kvs.map (·.1) = ks.map (fun k => k.map Sum.inl) → Paired (fun (t : Addr) (k : List Int) => H t = some (.tup (k.map V.int))) (xs.map (·.2.1)) ks
  | _, _, [], .nil, _ => .nil
  | _, _, _ :: _, .nil, e => nomatch e
  | _, _, [], .cons _ _, e => nomatch e
  | _, _, k :: ks, .cons h t, e => by
    injection e with e1 e2
    refine .cons ?_ (kt_addrs t e2)
    have := h.2.1
    have e1 : _ = k.map Sum.inl := e1
    dsimp only at e1
    rw [e1] at this
    simpa [List.map_map, Function.comp_def, kV] using this
theorem paired_map_eq {H : Hp} : ∀ {ts : List Addr} {ks : List (List Int)}, Paired (fun (t : Addr) (k : List Int) => H t = some (.tup (k.map V.int))) ts ks → ts.map (fun t => keyV H (.ref t)) = ks ∧ ∀ t ∈ ts, H t = some (.tup ((keyV H (.ref t)).map V.int)) ∧ keyV H (.ref t) ∈ ks
  | _, _, .nil => ⟨rfl, fun _ z => nomatch z⟩
  | _, _, .cons (a := t) (b := k) h r => by
    obtain ⟨e1, e2⟩ := paired_map_eq r
    have ek : keyV H (.ref t) = k := by
      unfold keyV
      simp only [h]
      exact iV_map k
    refine ⟨by simp [ek, e1], fun u hu => ?_⟩
    rcases List.mem_cons.mp hu with rfl | hu
    · exact ⟨by rw [ek]; exact h, by rw [ek]; exact List.mem_cons_self⟩
    · exact ⟨(e2 u hu).1, List.mem_cons_of_mem _ (e2 u hu).2⟩
theorem paired_keys {H : Hp} : ∀ {ts : List Addr}, (∀ t ∈ ts, H t = some (.tup ((keyV H (.ref t)).map V.int))) → Paired (fun (t : Addr) (k : List Int) => H t = some (.tup (k.map V.int))) ts (ts.map fun t => keyV H (.ref t))
  | [], _ => .nil
  | t :: ts, h => .cons (h t List.mem_cons_self) (paired_keys fun u hu => h u (List.mem_cons_of_mem _ hu))
theorem cr_sortedDT {X : Cx} (hc : X.calm = true) : CallR X (.builtin "sorted") rSortedDT := by
  intro pins s σ H vs us Q I r h
  obtain ⟨a, kvs, ks, rfl, hd, hks, hne, q⟩ := h
  obtain ⟨u, rfl, ru⟩ := vals1 r
  obtain rfl : u = Value.ref a := ru
  obtain ⟨hz, lo, xs, rel, dd⟩ := dt_rd I.hok hd
  obtain ⟨o, es, ep, g1, g2, g3, g4, g5, g6⟩ := dd
  have lx : kvs.length = xs.length := Paired.length rel
  have les : es.size = xs.length := by
    have := congrArg List.length g4
    simpa using this
  have pa := kt_addrs rel hks
  obtain ⟨pe, pm⟩ := paired_map_eq pa
  refine Calls.call_function_entry PyProof.Rows.kind_sorted PyProof.Rows.plain_sorted PyProof.Rows.entry_sorted (PyProof.Rows.args_sorted1 _) ?_
  unfold Builtin.«sorted»
  refine wpAny_bind (m := checkCount "sorted" 1 1 _) (wpAny_pure ?_)
  refine wpAny_bind (PySem.W.kdu_collect (A := X.A.in1) (KdlSrc.rawDict (es := es) (ep := ep) lo) (I.ok.hd hc) ⟨o, g1, g2, g3⟩ (by omega) fun h' tk acc hk hacc => ?_)
  have hits : acc.toList = (xs.map (·.2.1)).map Value.ref := by
    refine List.ext_getElem? fun j => ?_
    rw [Array.getElem?_toList, List.map_map, List.getElem?_map]
    by_cases hj : j < es.size
    · obtain ⟨v, hv⟩ : ∃ v, acc[j]? = some v := ⟨acc[j]'(by rw [hacc.1]; exact hj), by simp [hacc.1, hj]⟩
      obtain ⟨hj', ev⟩ := hacc.2 j v hv
      have e1 : es.toList[j]? = (xs.map (entryOfKey (tupleKind (mixKind X.prog X.w))))[j]? := by rw [g4]
      rw [Array.getElem?_toList, List.getElem?_map] at e1
      rw [hv, ev]
      cases ex : xs[j]? with
      | none => have := List.getElem?_eq_none_iff.mp ex; omega
      | some y =>
        rw [ex] at e1
        have e2 : es[j]? = some (entryOfKey (tupleKind (mixKind X.prog X.w)) y) := e1
        obtain ⟨_, e3⟩ := Array.getElem?_eq_some_iff.mp e2
        rw [e3]
        rfl
    · rw [List.getElem?_eq_none_iff.mpr (by omega)]
      rw [Array.getElem?_eq_none (by rw [hacc.1]; omega)]
      rfl
  obtain ⟨ads, hads⟩ : ∃ ads, xs.map (·.2.1) = ads := ⟨_, rfl⟩
  rw [hads] at hits pa pe pm
  have lad : ads.length = kvs.length := by rw [← hads, List.length_map]; omega
  have I1 : Inv X pins σ H { s with heap := h', toks := tk } := I.kept hk
  refine wpAny_bind (wpAny_newList ?_ (by rw [hits, List.length_map]; omega))
  rw [hits]
  have hoL : (h'.push (seqObj "list" (ads.map Value.ref).toArray 0)).get? h'.objs.size = some (seqObj "list" (ads.map Value.ref).toArray 0) := Heap.get?_push_size _ rfl
  show wpAny _ _ _ _ _ { s with heap := h'.push (seqObj "list" (ads.map Value.ref).toArray 0), toks := tk }
  have hsz : (ads.map Value.ref).length ≤ sizeLine := by rw [List.length_map]; omega
  have hp : ∀ v ∈ ads.map Value.ref, IsIT h' v (keyV H (backV v)) := fun v hv => by
    obtain ⟨t, ht, rfl⟩ := List.mem_map.mp hv
    obtain ⟨h1, h2⟩ := pm t ht
    obtain ⟨_, its2, r2, o2, ho, hcl, n, hdt⟩ := I1.hok _ _ h1
    exact ⟨t, o2, _, n, rfl, ho, hcl, hdt, (by simpa using vals_intsAre r2 : IntsAre its2.toArray.toList (keyV H (V.ref t))), hne _ h2⟩
  refine wpAny_bind (wpAny_holding (wpAny_call_entry slot_list_sort ⟨_, hoL, rfl⟩ entry_list_sort (SrtO.list_sort_ord (vs := ads.map Value.ref) (swo_lexL fun u => keyV H (backV u)) hoL hsz (fun h2 => ?_) fun out hs hb => ⟨_, rfl, ?_⟩) (args_list_sort _)))
  · refine it_sortable (by omega) (fun v hv => (hp v hv).keeps fun b o e _ => Heap.get?_push_of_some _ e) fun o e c => ?_
    have e' : some o = some (seqObj "list" (ads.map Value.ref).toArray 0) := e.symm.trans hoL
    cases e'
    exact absurd (Value.type.inj c) (by decide)
  · have hpm : out.Perm (ads.map Value.ref) := hb.perm
    obtain ⟨ts, rfl⟩ : ∃ ts : List Addr, out = ts.map Value.ref := refs_all fun u hu => by
      obtain ⟨a, _, rfl⟩ := List.mem_map.mp (hpm.mem_iff.mp hu)
      exact ⟨a, rfl⟩
    have htp : ts.Perm ads := perm_ref hpm
    obtain ⟨n, hn⟩ := sortedHeap_at (vs := ads.map Value.ref) (out := (ts.map Value.ref).toArray) hoL
    have old : ∀ b u, h'.get? b = some u → (sortedHeap (h'.push (seqObj "list" (ads.map Value.ref).toArray 0)) h'.objs.size (ads.map Value.ref) (ts.map Value.ref).toArray).get? b = some u := fun b u e =>
      (sortedHeap_old (Nat.ne_of_lt (Heap.lt_size e)) (Nat.lt_of_lt_of_le (Heap.lt_size e) (by rw [size_push']; omega))).trans (Heap.get?_push_of_some _ e)
    refine wpAny_pure ⟨_, rfl, .ref h'.objs.size, upd H h'.objs.size (.lst (ts.map V.ref)), I1.laid (t' := tk) old (Nat.le_refl _) ⟨by rw [List.length_map, htp.length_eq]; omega, ts.map Value.ref, n, vals_refs ts, hn⟩, rfl, ?_⟩
    refine q ts (ts.map fun t => keyV H (.ref t)) _ ?_ ?_ (paired_keys fun t ht => (pm t (htp.mem_iff.mp ht)).1) (I1.hok.fresh (Nat.le_refl _))
    · rw [← pe]; exact htp.map _
    · have hs' := List.pairwise_map.mp (show (ts.map Value.ref).Pairwise _ from hs)
      exact List.pairwise_map.mpr (hs'.imp fun {a b} z => z)
/-! ### on data -/
def keyTI : List (D × D) → Option (List (List Int))
  | [] => some []
  | (k, _) :: r => (tupI k).bind fun x => (keyTI r).bind fun xs => some (x :: xs)
theorem keys_ints : ∀ {k : List Key} {x : List Int}, k.map kD = x.map PyData.int → k = x.map Sum.inl
  | [], [], _ => rfl
  | [], _ :: _, h => nomatch h
  | _ :: _, [], h => nomatch h
  | y :: r, z :: s, h => by
    injection h with h1 h3
    cases y with
    | inl i => cases h1; rw [keys_ints h3]; rfl
    | inr _ => cases h1
theorem keyTI_dt {K : Fg} {F : Hp} : ∀ {kvs : List (List Key × V)} {es : List (D × D)} {ks : List (List Int)}, DtT K F kvs es → keyTI es = some ks → kvs.map (·.1) = ks.map (fun k => k.map Sum.inl) ∧ ∀ k ∈ ks, k ≠ []
  | _, _, ks, .nil, e => by cases e; exact ⟨rfl, fun _ z => nomatch z⟩
  | _, _, ks, .cons (k := k) h t, e => by
    obtain ⟨x, e1, e2⟩ := bd e
    obtain ⟨xs, e3, e4⟩ := bd e2
    cases e4
    obtain ⟨g1, g2⟩ := keyTI_dt t e3
    obtain ⟨h1, h2⟩ := tupI_eq e1
    have hk : k = x.map Sum.inl := by
      unfold tupD at h1
      injection h1 with h1
      exact keys_ints h1
    refine ⟨by simp [hk, g1], fun z hz => ?_⟩
    rcases List.mem_cons.mp hz with rfl | hz
    · exact h2
    · exact g2 z hz
def gSortedDT : List D → Option D
  | [.dict ((.bool true, .none) :: es)] => (keyTI es).bind fun ks => some (.list ((sortL ks).map tupD))
  | _ => none
theorem tup_dt {K : Fg} {F H : Hp} (kt : KT F H) : ∀ {ts : List Addr} {ks : List (List Int)}, Paired (fun (t : Addr) (k : List Int) => H t = some (.tup (k.map V.int))) ts ks → DtA K F (ts.map V.ref) (ks.map tupD)
  | _, _, .nil => .nil
  | _, _, .cons (a := t) (b := k) h r => by
    refine .cons (.tup (xs := k.map V.int) ?_ (ints_dt k)) (tup_dt kt r)
    have e : k.map V.int = (k.map Sum.inl : List Key).map kV := by simp [List.map_map, Function.comp_def, kV]
    rw [e] at h ⊢
    exact kt t _ h
theorem ok_sortedDT {K : Fg} : OkAN K rSortedDT gSortedDT := fun {B F H σ env xs ds d Q} S h e k => by
  unfold gSortedDT at e
  split at e
  · rename_i es
    obtain ⟨ks, q, e⟩ := bd e
    cases e
    obtain ⟨v, rfl, h0⟩ := h.one
    obtain ⟨p, kvs, rfl, hp, t⟩ := h0.dT S.fh
    obtain ⟨e1, e2⟩ := keyTI_dt t q
    refine ⟨p, kvs, ks, rfl, hp, e1, e2, fun ts ks' r h1 h2 h3 hr => ?_⟩
    have := sortedL_eq (h1.trans (sortL_perm ks).symm) h2 (sortL_le ks)
    subst this
    exact KN.at_new (K := K) k S hr ⟨_, upd_same, tup_dt S.kt h3⟩
  · cases e
/-! all kinds in one -/
def gSrt : List D → Option D := fun xs => match gSorted xs with
  | some d => some d
  | none => match gSortedT xs with
    | some d => some d
    | none => gSortedDT xs
def rSrt (K : Fr) : List V → Hp → VK → Prop := fun xs H Q => rSortedG K xs H Q ∨ rSortedIT K xs H Q ∨ rSortedDT xs H Q
theorem call_srt {X : Cx} (hc : X.calm = true) : CallR X (.builtin "sorted") (rSrt X.K) := fun pins s σ H xs us Q I r h => by
  rcases h with h | h | h
  · exact call_sortedG hc pins s σ H xs us Q I r h
  · exact cr_sortedIT pins s σ H xs us Q I r h
  · exact cr_sortedDT hc pins s σ H xs us Q I r h
theorem ok_srt {K : Fg} : OkAN K (rSrt K.fr) gSrt := fun {B F H σ env xs ds d Q} S h e k => by
  unfold gSrt at e
  split at e
  · rename_i d' q; cases e; exact .inl (ok_sorted S h q k)
  · split at e
    · rename_i d' q; cases e; exact .inr (.inl (ok_sortedT S h q k))
    · exact .inr (.inr (ok_sortedDT S h e k))
end DL

/-! DNa: B.__init__(self, ..) where B is an own class over ValueError without own __init__. -/
namespace L2
open PySem PySem.W
section
variable {X : Cx} {e : Expr} {es : List Expr} {ta : TA} {x : Str} {p1 p2 pos : Pos} {C0 : Addr}
theorem pe_oinit {pl : Sem Bool} (hg : Gl X x) (hm : X.mg x = some (.ref C0)) (hga : PySem.W.specialIn X.K (.ref C0) "__getattribute__" = some (some (.builtin "type.__getattribute__"))) (hr : PySem.W.readsIn X.K C0 (.type "type") = true) (hv : PySem.W.findCls X.K (.ref C0) (.type "type") "__init__" = some (.val (.builtin "ValueError.__init__")))
    (ha : PA X (e :: es) ta)
    (hc : eval (.Call (.Attribute (.Name x p1) "__init__" p2) (e :: es) [] pos) X.env = (do
      let ov ← eval (.Name x p1) X.env
      standAt p2.atName
      let (f, first) ← holding [ov] (getMethod ov "__init__" pl)
      callWith pos f first (backTo pos (starEach (e :: es) X.env)) (backToKw pos (keywordEach [] X.env))) := by rfl) (hdb : (x == ("__debug__" : Str)) = false := by decide)
    (he : starEach (e :: es) X.env = (false, eval e X.env) :: starEach es X.env := by rfl) (hpl : (backTo pos (starEach es X.env)).any (·.1) = false := by rfl) :
    PE X (.Call (.Attribute (.Name x p1) "__init__" p2) (e :: es) [] pos) (tVeI X.K ta) := by
  refine ⟨fun pins s σ H Q I h => ?_⟩
  refine PySem.W.methodCall_KW (ld_glob I hg hm ?_ hdb) hc
  refine PySem.W.method_cls I.kIn hga ?_
  refine PySem.W.cls_value I.kIn hr hv (by decide +kernel) ?_
  show wpAny _ _ (callWith pos (Value.builtin "ValueError.__init__") [] (backTo pos (starEach (e :: es) X.env)) []) _ _ _
  refine PyProof.Rows.callWith_method1 (thn (ha.run pos pins _ σ H _ (I.tok _) h) fun us s1 ⟨vs, H1, I1, r1, a, C, ws, ev, hl, T, ea, q⟩ => ?_) he hpl
  subst ev
  cases r1 with
  | @cons _ u0 _ ur ra rw' =>
    obtain rfl : u0 = Value.ref a := ra
    have hlen : ur.length ≤ sizeLine := by
      rw [← Paired.length rw', sizeLine_eq]
      omega
    exact oinit_ok T I1 ea hlen fun s' J => ⟨.non, H1, J, rfl, q⟩
end
end L2

/-! DNb: defs that may raise; calls of them at a statement. -/
namespace DL
open PySem L2

theorem ExOk.mono {K : Fg} {H0 G0 F G H : Hp} {X0 X1 : List (Addr × HO)} {x : Ex} {cls : Value} {dd : Option Addr} (h : ExOk K H0 X0 F H x cls dd) (s : Sub F G) (n : ∀ a, H0 a = none → F a = none → (∀ q ∈ X0, q.1 ≠ a) → G0 a = none ∧ (∀ q ∈ X1, q.1 ≠ a) ∧ G a = none) : ExOk K G0 X1 G H x cls dd := by
  obtain ⟨h1, h2⟩ := h
  refine ⟨h1, ?_⟩
  obtain ⟨c, fld⟩ := x
  cases fld with
  | none => exact h2
  | some q =>
    obtain ⟨a, v, e, n0, nx, n1, ha, hd⟩ := h2
    exact ⟨a, v, e, (n a n0 n1 nx).1, (n a n0 n1 nx).2.1, (n a n0 n1 nx).2.2, ha, hd.mono s⟩
def spX (K : Fg) (fl : List Bool) (rk : Rk) (g : List D → Option ((D ⊕ Ex) × List D)) : Sp := fun vs H Q E => ∃ F ds r os M, Lk F H ∧ NoMk F ∧ KP K F H ∧ ArgsOk K F H 0 fl vs ds M ∧ Apart M ∧ g ds = some (r, os) ∧
  ∀ F' H', Lk F' H' → NoMk F' → KP K F' H' → Sub F F' → (∀ p, F p = none → F' p ≠ none → H p = none ∧ ∀ ob u, F' p = some u → H' p ≠ some (.frz ob u)) → (∀ p o, H p = some o → (∀ j, (j, p) ∉ M) → ¬ K.tb p → H' p = some o) → OutsOk K F' H' M os →
    (∀ d v, r = .inl d → RetOk K rk H F' H' v d → Q v H') ∧ ∀ x cls dd, r = .inr x → ExOk K H [] F' H' x cls dd → E cls dd H'
def gOfX (n : Nat) (fl : List Bool) (body : Sf) (ds : List D) : Option ((D ⊕ Ex) × List D) := if ds.length = fl.length then (body (env0 n fl ds)).bind fun r => match r with
  | .nx e => (outsAt (slotsOf 0 fl) e).bind fun os => some (.inl .none, os)
  | .rt d e => (outsAt (slotsOf 0 fl) e).bind fun os => some (.inl d, os)
  | .xx x e => (outsAt (slotsOf 0 fl) e).bind fun os => some (.inr x, os)
  | _ => none else none
theorem bodyX_of {K : Fg} {N : List Str} {fl : List Bool} {body : Sf} {vs : List V} {H : Hp} {Q : VK} {E : XK} (h : spX K fl .fz (gOfX N.length fl body) vs H Q E) : tS K ⟨fun cls dd _ H' => E cls dd H'⟩ body { nx := fun _ H' => Q .non H', rt := Q } (L2.start N vs) H := by
  obtain ⟨F, ds, d, os, M, fh, nm, kt, ha, ap, hg, k⟩ := h
  unfold gOfX at hg
  rw [if_pos ha.len.2] at hg
  obtain ⟨r, hr, hg⟩ := bd hg
  refine ⟨⟨F, H, M, [], [], K.tb⟩, F, env0 N.length fl ds, r, sl_entry ha fh nm kt ap, hr, ?_⟩
  have nf : ∀ {σ' : L2.St} {F' H' : Hp} {e : En}, Sl K ⟨F, H, M, [], [], K.tb⟩ F' H' σ' e → ∀ p, F p = none → er F' p ≠ none → H p = none ∧ ∀ ob u, er F' p = some u → H' p ≠ some (.frz ob u) := fun {_ F' _ _} S p a b => by
    have b' : F' p ≠ none := fun z => b (er_none z)
    refine ⟨S.nw p a b', fun ob u e h => ?_⟩
    rcases S.lk p ob u (er_some e) h with z | ⟨z, _⟩
    · cases z
    · have n0 := S.nw p a b'
      dsimp only at z n0
      rw [n0] at z; cases z
  have out : ∀ {σ' : L2.St} {F' H' : Hp} {e : En}, Sl K ⟨F, H, M, [], [], K.tb⟩ F' H' σ' e → outsAt (slotsOf 0 fl) e = some os → OutsOk K (er F') H' M os := fun S q => by
    rw [← ha.slots] at q
    exact (outs_ok S (fun _ z => z) q).mono (er_sub _) fun _ _ z => er_none z
  cases r with
  | nx e =>
    obtain ⟨os', q, hg⟩ := bd hg
    cases hg
    exact fun σ' F' H' S s => (k (er F') H' (er_lk S.fh) (er_no _) S.kpE (s.trans (er_sub _)) (nf S) (fun p o a b c => S.kp p o a b (fun _ z => nomatch z) c) (out S q)).1 _ _ rfl (Dt.non : Dt K (er F') .non .none)
  | rt d' e =>
    obtain ⟨os', q, hg⟩ := bd hg
    cases hg
    exact fun v σ' F' H' S s hd => (k (er F') H' (er_lk S.fh) (er_no _) S.kpE (s.trans (er_sub _)) (nf S) (fun p o a b c => S.kp p o a b (fun _ z => nomatch z) c) (out S q)).1 _ _ rfl (hd.mono (er_sub _))
  | xx x e =>
    obtain ⟨os', q, hg⟩ := bd hg
    cases hg
    exact fun cls dd σ' F' H' S s hx => (k (er F') H' (er_lk S.fh) (er_no _) S.kpE (s.trans (er_sub _)) (nf S) (fun p o a b c => S.kp p o a b (fun _ z => nomatch z) c) (out S q)).2 _ _ _ rfl (hx.mono (er_sub _) fun a z1 z2 _ => ⟨z1, (fun _ z => nomatch z), er_none z2⟩)
  | rn d' e => cases hg
  | rm s0 d' e => cases hg
  | bk e => cases hg
  | ct e => cases hg
theorem spX_len {K : Fg} {fl : List Bool} {nw : Rk} {g : List D → Option ((D ⊕ Ex) × List D)} {ps : List Str} (hl : fl.length = ps.length) : ∀ vs H Q E, spX K fl nw g vs H Q E → vs.length = ps.length := fun vs H Q E h => by
  obtain ⟨F, ds, d, os, M, fh, _, _, ha, _⟩ := h
  rw [ha.len.1]
  exact hl
/-- what is told or raised -/
abbrev Dx := En → Option ((D ⊕ Ex) × En)
def tX (K : Fg) (wh : Wh) (f : Dx) : TE := fun σ H Q => ∃ B F env r env', Sl K B F H σ env ∧ f env = some (r, env') ∧
  (∀ d v F' H', r = .inl d → Sl K B F' H' σ env' → Sub F F' → Dt K F' v d → Q v H') ∧ ∀ x cls dd F' H', r = .inr x → Sl K B F' H' σ env' → Sub F F' → ExOk K B.H0 B.X F' H' x cls dd → wh.W cls dd σ H'
def eCallX (fl : List Bool) (g : List D → Option ((D ⊕ Ex) × List D)) (os : List Opd) : Dx := fun env => (evs os env).bind fun r => (callIn fl r.1 r.2).bind fun ds => (g ds).bind fun o => (putBack (callSl r.1) o.2 r.2).bind fun e => some (o.1, e)
theorem callX_le {K : Fg} {wh : Wh} {fl : List Bool} {g : List D → Option ((D ⊕ Ex) × List D)} {os : List Opd} : ∀ σ H Q, tX K wh (eCallX fl g os) σ H Q → tCallS (spX K fl .fz g) (WE wh.W) (tAr K os) σ H Q := fun σ H Q ⟨B, F, env, d, env', S, ef, kd, kx⟩ => by
  obtain ⟨⟨us, e1⟩, q1, ef⟩ := bd ef
  obtain ⟨ds, q2, ef⟩ := bd ef
  obtain ⟨⟨d', os'⟩, q3, ef⟩ := bd ef
  obtain ⟨e2, q4, ef⟩ := bd ef
  cases ef
  refine ⟨B, F, env, us, e1, S, q1, fun vs F1 H1 S1 s1 h1 => ?_⟩
  obtain ⟨M, a, b, c⟩ := callIn_args S1 0 h1 q2
  refine ⟨er F1, ds, _, os', M, er_lk S1.fh, er_no _, S1.kpE, a.mono (er_sub _) (fun _ z => er_none z), apart_of (K := K) (B := B) (F := F) (H := H) (σ := σ) (e := e1) (by rw [b]; exact putBack_le q4), q3, fun F' H' fh cl kt' s nw kp ok => ?_⟩
  have sb := mg_sub cl S1.fh nw
  have mn : ∀ q ∈ M, F1 q.2 = none := a.none
  have kpm : ∀ p o m, F1 p = some (.own m) → H1 p = some o → (∀ j, (j, p) ∉ M) → H' p = some o := fun p o m e h n => kp p o h n (S1.ntF e)
  have S2 := S1.called q4 b c (mg_lk S1.fh fh mn kpm) (mg_old s) (mg_nw nw) kp (ok.mono sb fun q hq z => by rw [mg_at (fun m w => by rw [mn q hq] at w; cases w)]; exact z) (fun _ _ z => mg_mk z) (mg_new cl) (mg_kt S1.kt S1.fh kt'.kt mn kpm) kt'.tb
  refine ⟨fun d v e hd => kd d v (mg F1 F') H' e S2 (s1.trans (mg_old s)) (Dt.mono sb hd), fun x cls dd e hx => kx x cls dd (mg F1 F') H' e S2 (s1.trans (mg_old s)) (hx.mono sb fun p z1 z2 _ => ⟨S1.fresh z1, S1.neX z1, ?_⟩)⟩
  have n1 : F1 p = none := S1.fh.none z1
  rw [mg_at (fun m w => by rw [n1] at w; cases w)]
  exact z2
def sDropX (f : Dx) : Sf := fun env => (f env).bind fun r => match r with
  | (.inl _, e) => some (.nx e)
  | (.inr x, e) => some (.xx x e)
def sSetX (i : Nat) (f : Dx) : Sf := fun env => (f env).bind fun r => match r with
  | (.inl d, e) => (put i (.fz d) e).bind fun e => some (.nx e)
  | (.inr x, e) => some (.xx x e)
def sRetX (f : Dx) : Sf := fun env => (f env).bind fun r => match r with
  | (.inl d, e) => some (.rt d e)
  | (.inr x, e) => some (.xx x e)
section
variable {X : Cx} {Tb : TbT} {e : Expr} {es : List Expr} {pos p : Pos} {wh : Wh} {f : Dx}
theorem dS_dropX (he : PE X e (tX (X.kg Tb) wh f)) (hs : swapsWith e none pos.line X.env = pure false := by rfl) : PS X (.Expr e pos) (tS (X.kg Tb) wh (sDropX f)) := PSi (ps_expr he hs) fun E σ H ⟨B, F, env, r, S, ef, k⟩ => by
  obtain ⟨⟨r1, e1⟩, q, ef⟩ := bd ef
  cases r1 with
  | inl d =>
    cases ef
    exact ⟨B, F, env, .inl d, e1, S, q, fun _ v F' H' _ S' s' _ => k σ F' H' S' s', fun x cls dd F' H' z => (nomatch z)⟩
  | inr x =>
    cases ef
    exact ⟨B, F, env, .inr x, e1, S, q, fun _ v F' H' z => (nomatch z), fun y cls dd F' H' z S' s' hx => by cases z; exact k cls dd σ F' H' S' s' hx⟩
theorem dS_retX (he : PE X e (tX (X.kg Tb) wh f)) : PS X (.Return (some e) pos) (tS (X.kg Tb) wh (sRetX f)) := PSi (ps_ret he) fun E σ H ⟨B, F, env, r, S, ef, k⟩ => by
  obtain ⟨⟨r1, e1⟩, q, ef⟩ := bd ef
  cases r1 with
  | inl d =>
    cases ef
    exact ⟨B, F, env, .inl d, e1, S, q, fun _ v F' H' z S' s' hd => by cases z; exact k v σ F' H' S' s' hd, fun x cls dd F' H' z => (nomatch z)⟩
  | inr x =>
    cases ef
    exact ⟨B, F, env, .inr x, e1, S, q, fun _ v F' H' z => (nomatch z), fun y cls dd F' H' z S' s' hx => by cases z; exact k cls dd σ F' H' S' s' hx⟩
theorem de_callX {k : Nat} {x : Str} {fa : Addr} {fd : FuncData} {ps : List Str} {fl : List Bool} {g : List D → Option ((D ⊕ Ex) × List D)} {os : List Opd} (tk : Takes X wh.W) (G : FnOk X.prog X.w X.K X.mg X.base (L2.CX X.prog X.w) k fa fd ps (spX (X.kg Tb) fl .fz g)) (hr : Room k X.A) (hg : Gl X x) (hm : X.mg x = some (.ref fa)) (hk : PySem.W.keepIn X.K (.ref fa) = true) (hb : Binds X.K fd ps [])
    (ha : PA X (e :: es) (tAr (X.kg Tb) os)) (hdb : (x == ("__debug__" : Str)) = false := by decide) (he : starEach (e :: es) X.env = (false, eval e X.env) :: starEach es X.env := by rfl) (hpl : (backTo pos (starEach es X.env)).any (·.1) = false := by rfl) :
    PE X (.Call (.Name x p) (e :: es) [] pos) (tX (X.kg Tb) wh (eCallX fl g os)) := PEi (pe_callS G hr hg hm hk hb (passAt tk) ha hdb he hpl) callX_le
end
/-- a def that may raise -/
theorem okX {P : Program} {w : World} {K : Fr} {mg : Str → Option Value} {base : Heap} {x : Str} {st : Stmt} {f : Addr} {fd : FuncData} {N ps : List Str} {k : Nat} {sp : Sp} (F : FnP K x st f fd) (S : FnScope N ps (defScope st)) (len : ∀ vs H Q E, sp vs H Q E → vs.length = ps.length)
    (body : ∀ (cdv : Value) (A : Around) (outer : List Env) (s : Shared) (H : Hp) (vs : List V) (Q : VK) (E : XK), Room k (A.deeper (PyProof.Rows.envOfC x (defScope st) s.heap.objs.size f cdv)) → sp vs H Q E →
      Takes (cxOf (L2.CX P w) P w K mg base N x (defScope st) f cdv A outer s H E) (fun cls d _ H => E cls d H) →
      ∃ t, PSs (cxOf (L2.CX P w) P w K mg base N x (defScope st) f cdv A outer s H E) (defBody st) t ∧ t { nx := fun _ H' => Q .non H', rt := Q } (L2.start N vs) H) : FnOk P w K mg base (L2.CX P w) (k + 1) f fd ps sp :=
  F.ok S len fun cdv A outer s H vs Q E hr hsp => body cdv A outer s H vs Q E hr hsp (takes_of rfl rfl rfl rfl)
end DL

/-! DNc: raise C(e), C an own class over ValueError whose own __init__ keeps its argument in one field. -/
namespace DL
open PySem L2
/-- what C's __init__ does: base's __init__, self.fld = v -/
def spI (C : Addr) (fld : Str) : Sp := fun vs H Q _ => ∃ a v, vs = [.ref a, v] ∧ H a = some (exo a C none) ∧ ∀ dx, H dx = none → dx ≠ a → Q .non (upd (upd H dx (exd dx [(fld, v)])) a (exo a C (some dx)))
def sRaise (x fld : Str) (f : Df) : Sf := fun env => (f env).bind fun r => some (.xx ⟨x, some (fld, r.1)⟩ r.2)
theorem raised_heap {H1 : Hp} {a dx C : Addr} {fld : Str} {v : V} (ha : H1 a = none) (hne : dx ≠ a) : upd (del (upd (upd (upd H1 a (exo a C none)) dx (exd dx [(fld, v)])) a (exo a C (some dx))) a) dx (.xd [(fld, v)]) = upd H1 dx (.xd [(fld, v)]) := by
  funext b
  by_cases h1 : b = dx
  · subst h1; rw [upd_same, upd_same]
  · rw [upd_ne h1, upd_ne h1]
    by_cases h2 : b = a
    · subst h2; rw [del_same, ha]
    · rw [del_ne h2, upd_ne h2, upd_ne h1, upd_ne h2]
section
variable {X : Cx} {Tb : TbT} {CX : CXT} {e : Expr} {x fld : Str} {p pos pos' : Pos} {C fI : Addr} {k : Nat} {fd : FuncData} {ps : List Str} {wh : Wh} {f : Df}
theorem dS_raise (hc : X.calm = true) (tk : Takes X wh.W) (T : OexC X.K C) (iC : PySem.W.findIn X.K (.ref C) "__init__" = some (some (.ref fI))) (tI : PySem.W.typeIn X.K (.ref fI) = some (.type "function"))
    (F1 : FnOk X.prog X.w X.K X.mg X.base CX k fI fd ps (spI C fld)) (hr : Room (k + 1) X.A) (hb : Binds X.K fd ps []) (hx : Passes CX X (fun _ _ _ => False)) (hg : Gl X x) (hm : X.mg x = some (.ref C)) (he : PE X e (tD (X.kg Tb) f))
    (hdb : (x == ("__debug__" : Str)) = false := by decide) (hse : starEach [e] X.env = (false, eval e X.env) :: starEach [] X.env := by rfl) :
    PS X (.Raise (some (.Call (.Name x p) [e] [] pos)) none pos') (tS (X.kg Tb) wh (sRaise x fld f)) := PSi (ps_raise hc tk (pmk_oex T iC tI F1 hr hb .nil hx hg hm (pa_cons he pa_nil hse) hdb hse rfl)) fun E σ H ⟨B, F, env, r, S, ef, kk⟩ => by
  obtain ⟨⟨d, e1⟩, q, ef⟩ := bd ef
  cases ef
  refine ⟨B, F, env, d, e1, S, q, fun v F1 H1 S1 s1 hd => ?_⟩
  refine ⟨by simp, fun a ha => ⟨a, v, rfl, upd_same, fun dx hdx hne => ⟨rfl, dx, [(fld, v)], upd_same, by rw [upd_ne hne]; exact upd_same, ?_, ?_⟩⟩⟩
  · rw [upd_ne hne] at hdx; exact hdx
  · have h1 : H1 dx = none := by rw [upd_ne hne] at hdx; exact hdx
    rw [raised_heap ha hne]
    exact kk (.ref C) (some dx) σ F1 _ (S1.laid h1) s1 ⟨⟨C, hm, rfl⟩, dx, v, rfl, S1.fresh h1, S1.neX h1, S1.fh.none h1, upd_same, hd⟩
end
end DL

/-! DNd: the own __init__ of an exception's class: B.__init__(self, text); self.fld = par. -/
namespace DL
open PySem L2
/-- what the text says of the base B -/
structure BaseC (K : Fr) (B : Addr) : Prop where
  ga : PySem.W.specialIn K (.ref B) "__getattribute__" = some (some (.builtin "type.__getattribute__"))
  rd : PySem.W.readsIn K B (.type "type") = true
  init : PySem.W.findCls K (.ref B) (.type "type") "__init__" = some (.val (.builtin "ValueError.__init__"))
theorem ok_init {P : Program} {w : World} {K : Fr} {mg : Str → Option Value} {base : Heap} {CX : CXT} {qual b fld par txt : Str} {pa : Arguments} {sc : Scope} {f C B : Addr} {fd : FuncData} {j : Nat} {p1 p2 p3 p4 p5 p6 p7 p8 p9 p10 : Pos} {dvs : List V} {kws : List (Str × V)} {pl : Env → Sem Bool}
    (F : FunD K "__init__" qual pa [.Expr (.Call (.Attribute (.Name b p1) "__init__" p2) [.Name "self" p3, .Constant (.str txt) j p4] [] p5) p6, .Assign [.Attribute (.Name "self" p7) fld p8] (.Name par p9) p10] sc dvs kws f fd)
    (S : FnScope ["self", par] ["self", par] sc) (hs : Vis sc "self") (hp : Vis sc par) (hb : sc.names.lookup b = some .globalImplicit) (hm : mg b = some (.ref B)) (hB : BaseC K B) (T : OexC K C) (hno : PySem.W.findIn K (.ref C) fld = some none)
    (hc : ∀ env : Env, eval (.Call (.Attribute (.Name b p1) "__init__" p2) [.Name "self" p3, .Constant (.str txt) j p4] [] p5) env = (do
      let ov ← eval (.Name b p1) env
      standAt p2.atName
      let (f, first) ← holding [ov] (getMethod ov "__init__" (pl env))
      callWith p5 f first (backTo p5 (starEach [.Name "self" p3, .Constant (.str txt) j p4] env)) (backToKw p5 (keywordEach [] env))) := by intro _; rfl)
    (hd : (b == ("__debug__" : Str)) = false := by decide) (hdp : (par == ("__debug__" : Str)) = false := by decide) (hcp : (par == ("__classdict__" : Str)) = false := by decide) : FnOk P w K mg base CX 1 f fd ["self", par] (spI C fld) := by
  refine F.ok S (fun vs H Q E h => ?_) fun cdv A outer s H vs Q E hr h => ?_
  · obtain ⟨a, v, rfl, _⟩ := h; rfl
  · obtain ⟨a, v, rfl, ha, q⟩ := h
    refine ⟨_, pss_cons (ps_expr (pe_oinit (C0 := B) ?g hm hB.ga hB.rd hB.init (pa_cons (pe_var (i := 0) rfl hs) (pa_cons pe_str pa_nil)) (hc _) hd)) (pss_one (ps_ost (pe_var (i := 0) rfl hs) (pe_var (i := 1) rfl hp hdp hcp) rfl)), ?r⟩
    case g => exact hb
    case r =>
      refine ⟨_, rfl, ⟨a, C, [.str txt], rfl, by simp, T, ha, ⟨_, rfl, ⟨_, rfl, a, C, rfl, T, hno, .inl ⟨ha, fun dx h1 h2 => q dx h1 h2⟩⟩⟩⟩⟩
end DL

/-! DNe: a def that may raise, called where it doesn't. -/
namespace DL
open PySem L2
theorem passF {X : Cx} : Passes (L2.CX X.prog X.w) X E0 := fun pins σ H s e s' I c => by
  obtain ⟨a, B, H', cls, d, _, _, _, _, _, _, _, z⟩ := c
  exact z.elim
/-- what is told -/
def told (g : List D → Option ((D ⊕ Ex) × List D)) : List D → Option (D × List D) := fun ds => (g ds).bind fun o => match o with
  | (.inl d, os) => some (d, os)
  | _ => none
theorem sp_told {K : Fg} {fl : List Bool} {rk : Rk} {g : List D → Option ((D ⊕ Ex) × List D)} {vs : List V} {H : Hp} {Q : VK} {E : XK} (h : spD K fl rk (told g) vs H Q E) : spX K fl rk g vs H Q E := by
  obtain ⟨F, ds, d, os, M, fh, nm, kt, ha, ap, hg, k⟩ := h
  obtain ⟨⟨r, os'⟩, q, hg⟩ := bd hg
  cases r with
  | inr x => cases hg
  | inl d' =>
    cases hg
    refine ⟨F, ds, .inl d, os, M, fh, nm, kt, ha, ap, q, fun F' H' a1 a2 a3 a4 a5 a6 a7 => ⟨fun d2 v e hd => ?_, fun x cls dd e => nomatch e⟩⟩
    cases e
    exact k v F' H' a1 a2 a3 a4 a5 a6 a7 hd
section
variable {X : Cx} {Tb : TbT} {e : Expr} {es : List Expr} {x : Str} {p pos : Pos} {k : Nat} {f : Addr} {fd : FuncData} {ps : List Str} {fl : List Bool} {g : List D → Option ((D ⊕ Ex) × List D)} {os : List Opd} {mg : Str → Option Value}
theorem call_told {K : Fg} {E : XK} {os : List Opd} {rk : Rk} {fl : List Bool} {g : List D → Option ((D ⊕ Ex) × List D)} : ∀ σ H Q, tCall (spD K fl rk (told g)) [] E (tAr K os) σ H Q → tCall (spX K fl rk g) [] E (tAr K os) σ H Q := fun σ H Q ⟨B, F, env, us, e1, S, q1, k⟩ => ⟨B, F, env, us, e1, S, q1, fun vs F1 H1 S1 s1 h1 => sp_told (k vs F1 H1 S1 s1 h1)⟩
theorem de_callT (G : FnOk X.prog X.w X.K X.mg X.base (L2.CX X.prog X.w) k f fd ps (spX (X.kg Tb) fl .fz g)) (hr : Room k X.A) (hg : Gl X x) (hm : X.mg x = some (.ref f)) (hk : PySem.W.keepIn X.K (.ref f) = true) (hb : Binds X.K fd ps [])
    (ha : PA X (e :: es) (tAr (X.kg Tb) os)) (hdb : (x == ("__debug__" : Str)) = false := by decide) (he : starEach (e :: es) X.env = (false, eval e X.env) :: starEach es X.env := by rfl) (hpl : (backTo pos (starEach es X.env)).any (·.1) = false := by rfl) :
    PE X (.Call (.Name x p) (e :: es) [] pos) (tD (X.kg Tb) (eCall fl (told g) os)) := PEi (pe_call (E := E0) G hr hg hm hk hb .nil passF ha hdb he hpl) fun σ H Q h => call_told σ H Q (call_le σ H Q h)
theorem dS_setX {wh : Wh} {i : Nat} {f : Dx} {pos' : Pos} (hN : X.N.Nodup) (he : PE X e (tX (X.kg Tb) wh f)) (hi : X.N[i]? = some x := by rfl) (hx : Loc X.env.scope x := by first | exact Or.inl rfl | exact Or.inr rfl) (hs : swapsWith e (some (.Name x pos')) pos.line X.env = pure false := by rfl) (hf : X.fn x = true ∨ X.env.scope.names.lookup x = some .local := by first | exact .inl rfl | exact .inr rfl | assumption) :
    PS X (.Assign [.Name x pos'] e pos) (tS (X.kg Tb) wh (sSetX i f)) := PSi (ps_set hN hi hx he hs hf) fun E σ H ⟨B, F, env, r, S, ef, k⟩ => by
  obtain ⟨⟨r1, e1⟩, q, ef⟩ := bd ef
  cases r1 with
  | inl d =>
    obtain ⟨e2, q2, ef⟩ := bd ef
    cases ef
    obtain ⟨hi', np, rfl⟩ := put_inv q2
    exact ⟨B, F, env, .inl d, e1, S, q, fun _ v F' H' z S' s' hd => by cases z; exact k _ F' H' (S'.set hi' np hd) s', fun x cls dd F' H' z => (nomatch z)⟩
  | inr x =>
    cases ef
    exact ⟨B, F, env, .inr x, e1, S, q, fun _ v F' H' z => (nomatch z), fun y cls dd F' H' z S' s' hx => by cases z; exact k cls dd σ F' H' S' s' hx⟩
end
end DL

/-! DNf: an object that was met newly is tracked. -/
namespace L2
open PySem
theorem Inv.track {X : Cx} {pins : List (Addr × Obj)} {σ : St} {H : Hp} {s : Shared} {a : Addr} {oe : Obj} {o : HO} (I : Inv X pins σ H s) (hn : H a = none) (ha : s.heap.get? a = some oe) (n0 : X.s_0.heap.get? a = none) (nL : a ≠ X.env.locals) (nc : ∀ v, oe.data ≠ .cell v)
    (np : ∀ p ∈ X.pn ++ pins, p.1 ≠ a) (new : ObjOk X.prog X.w (upd H a o) s.heap a o) : Inv X pins σ (upd H a o) s := by
  refine ⟨I.ok, I.os, I.bare, ⟨I.base.keep, I.base.slot, fun b u h1 h2 h3 => ?_, I.base.there, fun b xs h => ?_, fun b u v h => ?_, fun b ps h => ?_⟩, I.loc, I.cell, ?_, fun x c hc => ?_, fun p hp => ?_, HOk.laidN I.hok (fun _ _ z => z) hn new, I.len⟩
  · have ne : b ≠ a := by rintro rfl; rw [n0] at h1; cases h1
    rw [upd_ne ne]; exact I.base.free b u h1 h2 h3
  · have q := I.base.tups b xs h
    have ne : b ≠ a := by rintro rfl; rw [hn] at q; cases q
    rw [upd_ne ne]; exact q
  · have q := I.base.frzs b u v h
    have ne : b ≠ a := by rintro rfl; rw [hn] at q; cases q
    rw [upd_ne ne]; exact q
  · obtain ⟨more, q⟩ := I.base.tbls b ps h
    have ne : b ≠ a := by rintro rfl; rw [hn] at q; cases q
    exact ⟨more, by rw [upd_ne ne]; exact q⟩
  · rw [upd_ne (Ne.symm nL)]; exact I.free
  · have ne : c ≠ a := by
      rintro rfl
      obtain ⟨v, hv⟩ := I.cell x c hc
      obtain ⟨u, h1, h2⟩ := hv
      rw [ha] at h1; cases h1
      exact nc _ h2
    rw [upd_ne ne]; exact I.freeC x c hc
  · obtain ⟨h1, h2, h3, h4, h5⟩ := I.pin p hp
    exact ⟨h1, by rw [upd_ne (np p hp)]; exact h2, h3, h4, h5⟩
end L2

/-! DNh: try .. except C as n: .., the caught exception a thing of the heap from the suite on. -/
namespace DL
open PySem PySem.Spec PyProof.Rows L2
theorem exo_ok {P : Program} {w : World} {H : Hp} {h : Heap} {a : Addr} {oe : Obj} {cls : Value} {dd : Option Addr} {vs : Array Value} (e : h.get? a = some oe) (z : Zc cls dd oe) (d : oe.data = .fields vs) : ObjOk P w H h a (ExO a cls dd) :=
  ⟨⟨oe, e, z, vs, d⟩, ⟨oe, e⟩, fun _ _ ⟨o, x1, x2, x3⟩ st => ⟨o, st _ x1, x2, x3⟩⟩
/-- a clause: its class, the name's slot, what its suite does -/
abbrev Cl := Value × Option Nat × TS
def sgo (i : Option Nat) (x : Option V) (σ : L2.St) : L2.St := match i with
  | some j => σ.set j x
  | none => σ
/-- what the clauses want of what is raised -/
def wCl (K : Fr) (Wo : WX) (D : Ends) : List Cl → WX
  | [] => Wo
  | (c, i, ts) :: r => fun cls d σ H => ∃ b, PySem.W.exmOne K cls c = some b ∧
      (b = true → ∀ a, H a = none → ts { nx := fun s' H' => D.nx (sgo i none s') H', rt := D.rt, bk := fun s' H' => D.bk (sgo i none s') H', ct := fun s' H' => D.ct (sgo i none s') H' } (sgo i (some (.ref a)) σ) (upd H a (ExO a cls d))) ∧ (b = false → wCl K Wo D r cls d σ H)
inductive ClOk (X : Cx) : List ExceptHandler → List Cl → Prop
  | nil : ClOk X [] []
  | as_ {x n : Str} {i : Nat} {c : Value} {ts : TS} {s0 : Stmt} {su : List Stmt} {p p' : Pos} {hs : List ExceptHandler} {l : List Cl} (hc : Names X x c) (hi : X.N[i]? = some n) (hl : X.env.kindOf n = some .local)
      (su_ok : ∀ (a : Addr) (pn : List (Addr × Obj)), PSs (X.suite a pn) (s0 :: su) ts) (r : ClOk X hs l) : ClOk X (.ExceptHandler (some (.Name x p)) (some n) (s0 :: su) p' :: hs) ((c, some i, ts) :: l)
  | only {x : Str} {c : Value} {ts : TS} {s0 : Stmt} {su : List Stmt} {p p' : Pos} {hs : List ExceptHandler} {l : List Cl} (hc : Names X x c)
      (su_ok : ∀ (a : Addr) (pn : List (Addr × Obj)), PSs (X.suite a pn) (s0 :: su) ts) (r : ClOk X hs l) : ClOk X (.ExceptHandler (some (.Name x p)) none (s0 :: su) p' :: hs) ((c, none, ts) :: l)
theorem inv_suite {X : Cx} {pins : List (Addr × Obj)} {σ : L2.St} {H : Hp} {s : Shared} (I : L2.Inv X pins σ H s) (a : Addr) : L2.Inv (X.suite a (X.pn ++ pins)) [] σ H s :=
  ⟨I.ok.suite a _, I.os, I.bare, I.base, I.loc, I.cell, I.free, I.freeC, fun q hq => I.pin q (by simpa using hq), I.hok, I.len⟩
theorem inv_unsuite {X : Cx} {pins pz : List (Addr × Obj)} {σ : L2.St} {H : Hp} {s : Shared} {a : Addr} (I : L2.Inv (X.suite a (X.pn ++ pins)) pz σ H s) (ok : X.Ok) : L2.Inv X pins σ H s :=
  ⟨ok, I.os, I.bare, I.base, I.loc, I.cell, I.free, I.freeC, fun q hq => I.pin q (List.mem_append.mpr (.inl hq)), I.hok, I.len⟩
section
variable {X : Cx} {body : List Stmt} {h0 : ExceptHandler} {hs : List ExceptHandler} {l : List Cl} {pos : Pos} {tb : WX → TS} {Wo : WX}
theorem ps_tryT (hst : X.stack = X.env :: X.outer) (hfr : X.env.frame = some X.env.locals) (hex : X.ex = []) (nd : X.N.Nodup) (tk : Takes X Wo)
    (hb : ∀ (W : WX) (pn : List (Addr × Obj)) (xe : Value → Shared → Prop), Takes (X.tr pn xe) W → PassesOwn (model X.prog X.w) X.A X.env xe → PSs (X.tr pn xe) body (tb W))
    (hh : ClOk X (h0 :: hs) l) : PS X (.Try body (h0 :: hs) [] [] pos) (fun D σ H => tb (wCl X.K Wo D l) D σ H) := by
  refine ⟨fun pins s σ H D I h => ?_⟩
  have ok := I.ok
  have hfs : X.A.frames = some (X.env :: X.outer) := by
    rw [ok.frames, hst]
  refine wpAny_Try_except ?_
  refine wpAny_mono ((hb (wCl X.K Wo D l) (X.pn ++ pins) _ (fun u s1 xx => ?_) PassesOwn.looking).run [] s σ H D (I.toTry _) h) (fun fl s1 q => ?_) (fun _ _ z => z)
  · obtain ⟨a, gr, sJ, pz, τ, G, cl, dd, e0, J0, inG, ups, sk, nG, eos, bare, want⟩ := xx
    subst e0
    have J : L2.Inv X pins τ G sJ := J0.ofTry ok
    rw [hst] at sk
    show wpAny (model X.prog X.w) X.A (noteFrame (.ref a) X.env) _ _ _
    refine Sky.land Zc.steady hfs hfr sk fun hp3 fly3 up3 => ?_
    have J3 : L2.Inv X pins τ G { s1 with heap := hp3 } := J.landed inG fly3.1 (ups.trans up3) eos bare
    obtain ⟨ob3, us3, at3, zc3, dat3⟩ := fly3.there
    have noFr : a ∉ frs (X.env :: X.outer) := fun hm => by
      obtain ⟨_, o', e', nf⟩ := fly3.2.2.1.mem hm
      rw [at3] at e'; cases e'
      exact nf _ dat3
    have nLoc : a ≠ X.env.locals := fun z => noFr (by
      refine List.mem_filterMap.mpr ⟨X.env, List.mem_cons_self, ?_⟩
      rw [hfr, z])
    have nGr : gr.get? a = none := fly3.2.1
    have n0 : X.s_0.heap.get? a = none := by
      cases e : X.s_0.heap.get? a with
      | none => rfl
      | some o =>
        obtain ⟨o', e'⟩ := J.base.there a o e (by rw [hex]; simp)
        have := inG a o' e' (by rw [hst]; exact noFr)
        rw [nGr] at this; cases this
    have npin : ∀ q ∈ X.pn ++ pins, q.1 ≠ a := fun q hq z => by
      obtain ⟨g1, _, g3, g4, _⟩ := J.pin q hq
      have : q.1 ∉ frs (X.env :: X.outer) := by rw [z]; exact noFr
      have := inG _ _ g1 (by rw [hst]; exact this)
      rw [z, nGr] at this; cases this
    have go : ∀ {hs' : List ExceptHandler} {l' : List Cl}, ClOk X hs' l' → wCl X.K Wo D l' cl dd τ G → wpAny (model X.prog X.w) X.A (handleBy (.ref a) X.env hs') (SP X pins D) X.xe { s1 with heap := hp3 } := by
      have tested : ∀ {c : Value} {x : Str} {p : Pos} {b : Bool} {Q : Bool → Shared → Prop} {E : Value → Shared → Prop}, Names X x c → PySem.W.exmOne X.K cl c = some b → True := fun _ _ => trivial
      have nam : ∀ {c : Value} {x : Str} {p : Pos} {Q : Value → Shared → Prop} {E : Value → Shared → Prop}, Names X x c → Q c { s1 with heap := hp3 } → wpAny (model X.prog X.w) (X.A.mark (some (.ref a))) (eval (.Name x p) X.env) Q E { s1 with heap := hp3 } := fun {c x p Q E} hc q => by
        have S3 := inv_suite J3 a
        obtain ⟨g1, g2, g3⟩ := hc
        rcases g3 with g3 | ⟨g3, g4, g5⟩
        · exact ld_glob (X := X.suite a (X.pn ++ pins)) S3 g1 g3 q g2
        · exact ld_blt (X := X.suite a (X.pn ++ pins)) S3 g1 g3 g4 q g5 g2
      have typ : PySem.W.Looks (model X.prog X.w) hp3 (typeOf (.ref a)) cl := fun A Q E s k q => wpAny_typeOf_ref (k _ _ at3) (by
        rw [zc3.1]
        exact q)
      have tracked : ∀ {hp4 : Heap}, HandSPX.FlyingZ gr (X.env :: X.outer) a (Zc cl dd) hp4 → hp3.UpToSlots hp4 → L2.Inv X pins τ (upd G a (ExO a cl dd)) { s1 with heap := hp4 } := fun {hp4} fly4 up4 => by
        have J4 : L2.Inv X pins τ G { s1 with heap := hp4 } := J.landed inG fly4.1 ((ups.trans up3).trans up4) eos bare
        obtain ⟨ob4, us4, at4, zc4, dat4⟩ := fly4.there
        exact J4.track nG at4 n0 nLoc (fun v z => by rw [dat4] at z; cases z) npin (exo_ok at4 zc4 dat4)
      intro hs' l' hk
      induction hk with
      | nil =>
        intro w
        refine wpAny_handleBy_nil ?_
        obtain ⟨_, _, _, oz, uz, tz, _, _, a1, _, a3, a4, _⟩ := id fly3
        unfold PySem.passOn
        refine wpAny_bind (wpAny_field a1 a3 a4 ?_)
        rw [if_neg (by simp : ¬ ((Value.ref tz == Value.none) = true))]
        have fin : wpAny (model X.prog X.w) X.A (setFlight (.ref a) X.env.frame) (fun _ s4 => wpAny (model X.prog X.w) X.A (throw (.ref a) : Sem Flow) (SP X pins D) X.xe s4) X.xe { s1 with heap := hp3 } := by
          rw [hfr]
          refine HandSPX.setFlight_upZ fly3 fun hp4 hz4 up4 => ?_
          refine wpAny_throw (tk _ _ ⟨a, gr, sJ, pins, τ, G, cl, dd, rfl, J, inG, (ups.trans up3).trans up4, ?_, nG, eos, bare, w⟩)
          rw [hst]
          exact .inr (.inr hz4)
        first
          | exact wpAny_bind (wpAny_pure (wpAny_bind fin))
          | exact wpAny_bind fin
      | @as_ x n i c ts s0 su p p' hs2 l2 hc hi hl suok r ih =>
        intro w
        obtain ⟨b, eb, yes, no⟩ := w
        refine wpAny_handleBy_cons (codeAny_handlers_test ?_) (fun q => nomatch q)
        refine nam hc ((PySem.W.exm_one (M := model X.prog X.w) J3.kIn typ eb).here ?_)
        cases b with
        | false => exact ih (no rfl)
        | true =>
          refine codeAny_handlers_suite_as (HandSPX.lands_againZ fly3 fun hp4 fly4 up4 => ?_)
          have J4 := tracked fly4 up4
          refine store_ok (X := X.suite a (X.pn ++ pins)) (v := .ref a) (inv_suite J4 a) nd hi (.inl hl) rfl (fun s5 S5 => ?_) (.inr hl)
          refine wpAny_mono ((suok a (X.pn ++ pins)).run [] s5 _ _ _ S5 (yes rfl a nG)) (fun fl s6 q => ?_) (fun _ _ z => z.elim)
          cases fl with
          | next =>
            obtain ⟨τ6, H6, S6, q6⟩ := q
            exact gone_ok (inv_unsuite S6 ok) nd hi hl fun s7 J7 => ⟨_, _, J7, q6⟩
          | brk =>
            obtain ⟨τ6, H6, S6, q6⟩ := q
            exact gone_ok (inv_unsuite S6 ok) nd hi hl fun s7 J7 => ⟨_, _, J7, q6⟩
          | cont =>
            obtain ⟨τ6, H6, S6, q6⟩ := q
            exact gone_ok (inv_unsuite S6 ok) nd hi hl fun s7 J7 => ⟨_, _, J7, q6⟩
          | ret u =>
            obtain ⟨v6, τ6, H6, S6, r6, q6⟩ := q
            exact gone_ok (inv_unsuite S6 ok) nd hi hl fun s7 J7 => ⟨_, _, _, J7, r6, q6⟩
      | @only x c ts s0 su p p' hs2 l2 hc suok r ih =>
        intro w
        obtain ⟨b, eb, yes, no⟩ := w
        refine wpAny_handleBy_cons (codeAny_handlers_test ?_) (fun q => nomatch q)
        refine nam hc ((PySem.W.exm_one (M := model X.prog X.w) J3.kIn typ eb).here ?_)
        cases b with
        | false => exact ih (no rfl)
        | true =>
          refine codeAny_handlers_suite (HandSPX.lands_againZ fly3 fun hp4 fly4 up4 => ?_)
          have J4 := tracked fly4 up4
          refine wpAny_mono ((suok a (X.pn ++ pins)).run [] _ _ _ _ (inv_suite J4 a) (yes rfl a nG)) (fun fl s6 q => ?_) (fun _ _ z => z.elim)
          cases fl with
          | next =>
            obtain ⟨τ6, H6, S6, q6⟩ := q
            exact ⟨_, _, inv_unsuite S6 ok, q6⟩
          | brk =>
            obtain ⟨τ6, H6, S6, q6⟩ := q
            exact ⟨_, _, inv_unsuite S6 ok, q6⟩
          | cont =>
            obtain ⟨τ6, H6, S6, q6⟩ := q
            exact ⟨_, _, inv_unsuite S6 ok, q6⟩
          | ret u =>
            obtain ⟨v6, τ6, H6, S6, r6, q6⟩ := q
            exact ⟨_, _, _, inv_unsuite S6 ok, r6, q6⟩
    exact go hh want
  · cases fl with
    | next =>
      obtain ⟨τ, G, J, z⟩ := q
      exact wpAny_execs_nil ⟨τ, G, J.ofTry ok, z⟩
    | brk =>
      obtain ⟨τ, G, J, z⟩ := q
      exact ⟨τ, G, J.ofTry ok, z⟩
    | cont =>
      obtain ⟨τ, G, J, z⟩ := q
      exact ⟨τ, G, J.ofTry ok, z⟩
    | ret u =>
      obtain ⟨v, τ, G, J, r, z⟩ := q
      exact ⟨v, τ, G, J.ofTry ok, r, z⟩
end
end DL

/-! DNi: try on data; isinstance(e, C), e.f of an exception that is kept. -/
namespace DL
open PySem PySem.Spec PyProof.Rows L2
section
variable {K : Fg} {B : Bs} {F H : Hp} {σ : L2.St} {env : En}
theorem Own.noxd {p : Addr} {d : D} {fs : List (Str × V)} (h : Own K F H p d) (e : H p = Option.some (HO.xd fs)) : False := by
  cases d with
  | list ds => obtain ⟨vs, e', _⟩ := h; rw [e] at e'; cases e'
  | dict es => rcases h with ⟨_, e', _⟩ | ⟨_, _, _, e', _⟩ <;> (rw [e] at e'; cases e')
  | _ => exact h.elim
/-- a name is no more -/
theorem Sl.unset (S : Sl K B F H σ env) {i : Nat} (hi : i < env.length) (np : ∀ d, env[i]? ≠ some (.pw d)) : Sl K B F H (σ.set i none) (env.set i .un) := by
  have hs : i < σ.length := S.len ▸ hi
  have ow' : ∀ {j : Nat} {x : D}, IsOw (env.set i .un) j x → j ≠ i ∧ IsOw env j x := fun {j x} q => by
    rcases q with q | q
    · rcases set_other hi q with ⟨_, z⟩ | ⟨a, b⟩
      · cases z
      · exact ⟨a, .inl b⟩
    · rcases set_other hi q with ⟨_, z⟩ | ⟨a, b⟩
      · cases z
      · exact ⟨a, .inr b⟩
  refine ⟨S.fh, by simpa using S.len, fun j x q => ?_, fun j x q => ?_, fun j k x y p a b c d => ?_, fun q hq => ?_, S.f0, S.nw, S.kp, S.lc, fun q hq => ?_, S.lk, fun j s y q => by
    obtain ⟨hj, q⟩ := set_tr hi (fun _ _ => ⟨(by intro z; cases z), (by intro z; cases z)⟩) q
    rw [sset_other hj]; exact S.tr j s y q, S.mr, S.gv, S.kt, S.tb⟩
  · rcases set_other hi q with ⟨rfl, z⟩ | ⟨a, b⟩
    · cases z
    · rw [sset_other a]
      exact S.fz j x b
  · obtain ⟨hj, q⟩ := ow' q
    rw [sset_other hj]
    exact S.own j x q
  · obtain ⟨hj, a⟩ := ow' a
    obtain ⟨hk, b⟩ := ow' b
    rw [sset_other hj] at c
    rw [sset_other hk] at d
    exact S.ap j k x y p a b c d
  · obtain ⟨⟨x, hx⟩, h2⟩ := S.pm q hq
    have : q.1 ≠ i := by
      rintro z
      rw [z] at hx
      exact np x hx
    rw [List.getElem?_set_ne (Ne.symm this), sset_other this]
    exact ⟨⟨x, hx⟩, h2⟩
  · obtain ⟨g1, g2, g3, g4⟩ := S.hx q hq
    exact ⟨g1, g2, g3, fun j x h => by
      obtain ⟨hj, h⟩ := ow' h
      rw [sset_other hj]
      exact g4 j x h⟩
/-- what is raised, caught: an object of the others -/
theorem Sl.caught (S : Sl K B F H σ env) {x : Ex} {cls : Value} {dd : Option Addr} {a : Addr} (hx : ExOk K B.H0 B.X F H x cls dd) (na : H a = none) :
    ∃ F2, Sub F F2 ∧ Sl K B F2 (upd H a (ExO a cls dd)) σ env ∧ Dt K F2 (.ref a) (excD x.c x.fld) := by
  obtain ⟨⟨C, m, rfl⟩, h2⟩ := hx
  obtain ⟨c, fld⟩ := x
  have S1 := S.new (o := ExO a (.ref C) dd) na
  have s1 := S.subNew (o := ExO a (.ref C) dd) na
  cases fld with
  | none =>
    have h2 : dd = none := h2
    subst h2
    exact ⟨_, s1, S1, .exc m upd_same⟩
  | some q =>
    obtain ⟨f, d⟩ := q
    obtain ⟨p, v, rfl, n0, nx, nF, hp, hd⟩ := h2
    have ne : p ≠ a := ne_of_none hp na
    have e1 : upd H a (ExO a (.ref C) (some p)) p = some (.xd [(f, v)]) := by rw [upd_ne ne]; exact hp
    have e2 : upd F a (ExO a (.ref C) (some p)) p = none := by rw [upd_ne ne]; exact nF
    have S2 := S1.froze e1 e2 n0 (fun i d o z => by
      obtain ⟨q, g1, _, g3, _⟩ := S1.own i d o
      rw [z] at g1; cases g1
      exact g3.noxd e1) nx rfl
    have s2 : Sub (upd F a (ExO a (.ref C) (some p))) (upd (upd F a (ExO a (.ref C) (some p))) p (.xd [(f, v)])) := Sub.new e2
    exact ⟨_, s1.trans s2, S2, .exf m (by rw [upd_ne (Ne.symm ne)]; exact upd_same) upd_same (hd.mono (s1.trans s2))⟩
end
/-! ### try -/
/-- which classes a clause takes -/
abbrev Mt := Str → Option Bool
def cIn : Option Nat → Ex → En → Option En
  | some i, x, e => put i (.fz (excD x.c x.fld)) e
  | none, _, e => some e
def unS (i : Nat) (e : En) : Option En := put i .un e
def cOut : Option Nat → Rs → Option Rs
  | some i, .nx e => (unS i e).bind fun e => some (.nx e)
  | some i, .bk e => (unS i e).bind fun e => some (.bk e)
  | some i, .ct e => (unS i e).bind fun e => some (.ct e)
  | none, .nx e => some (.nx e)
  | none, .bk e => some (.bk e)
  | none, .ct e => some (.ct e)
  | _, .rt d e => some (.rt d e)
  | _, .rn d e => some (.rn d e)
  | _, .rm s d e => some (.rm s d e)
  | _, .xx _ _ => none
abbrev Cd := Mt × Option Nat × Sf
def pick : List Cd → Ex → En → Option Rs
  | [], x, e => some (.xx x e)
  | (m, i, f) :: r, x, e => (m x.c).bind fun b => if b = true then (cIn i x e).bind fun e1 => (f e1).bind fun r => cOut i r else pick r x e
def sTry (b : Sf) (cs : List Cd) : Sf := fun env => (b env).bind fun r => match r with
  | .xx x e => pick cs x e
  | r => some r
section
variable {X : Cx} {Tb : TbT}
/-- the class named is told by the table m -/
def MtOk (X : Cx) (m : Mt) (v : Value) : Prop := ∀ c b C, m c = some b → X.mg c = some (.ref C) → PySem.W.exmOne X.K (.ref C) v = some b
inductive CdOk (X : Cx) (Tb : TbT) : List ExceptHandler → List Cd → Prop
  | nil : CdOk X Tb [] []
  | as_ {x n : Str} {i : Nat} {c : Value} {m : Mt} {f : Sf} {s0 : Stmt} {su : List Stmt} {p p' : Pos} {hs : List ExceptHandler} {l : List Cd} (hc : Names X x c) (hm : MtOk X m c) (hi : X.N[i]? = some n) (hl : X.env.kindOf n = some .local)
      (su_ok : ∀ (a : Addr) (pn : List (Addr × Obj)) (wh : Wh), PSs (X.suite a pn) (s0 :: su) (tS (X.kg Tb) wh f)) (r : CdOk X Tb hs l) : CdOk X Tb (.ExceptHandler (some (.Name x p)) (some n) (s0 :: su) p' :: hs) ((m, some i, f) :: l)
  | only {x : Str} {c : Value} {m : Mt} {f : Sf} {s0 : Stmt} {su : List Stmt} {p p' : Pos} {hs : List ExceptHandler} {l : List Cd} (hc : Names X x c) (hm : MtOk X m c)
      (su_ok : ∀ (a : Addr) (pn : List (Addr × Obj)) (wh : Wh), PSs (X.suite a pn) (s0 :: su) (tS (X.kg Tb) wh f)) (r : CdOk X Tb hs l) : CdOk X Tb (.ExceptHandler (some (.Name x p)) none (s0 :: su) p' :: hs) ((m, none, f) :: l)
def wh0 : Wh := ⟨fun _ _ _ _ => False⟩
/-- .. as the clauses of DNh, with what they take -/
inductive CdR (X : Cx) (Tb : TbT) : List Cd → List Cl → Prop
  | nil : CdR X Tb [] []
  | cons {m : Mt} {i : Option Nat} {f : Sf} {c : Value} {cs : List Cd} {l : List Cl} : MtOk X m c → CdR X Tb cs l → CdR X Tb ((m, i, f) :: cs) ((c, i, tS (X.kg Tb) wh0 f) :: l)
theorem CdOk.cl {hs : List ExceptHandler} {cs : List Cd} (h : CdOk X Tb hs cs) : ∃ l, ClOk X hs l ∧ CdR X Tb cs l := by
  induction h with
  | nil => exact ⟨[], .nil, .nil⟩
  | as_ hc hm hi hl su _ ih =>
    obtain ⟨l, h1, h2⟩ := ih
    exact ⟨_, .as_ hc hi hl (fun a pn => su a pn wh0) h1, .cons hm h2⟩
  | only hc hm su _ ih =>
    obtain ⟨l, h1, h2⟩ := ih
    exact ⟨_, .only hc (fun a pn => su a pn wh0) h1, .cons hm h2⟩
theorem EndOk.wh {K : Fg} {wh wh' : Wh} {B : Bs} {F : Hp} {E : Ends} {r : Rs} (h : EndOk K wh B F E r) (n : ∀ x e, r ≠ .xx x e) : EndOk K wh' B F E r := by
  cases r <;> first | exact h | exact absurd rfl (n _ _)
theorem put_un {K : Fg} {B : Bs} {F H : Hp} {σ : L2.St} {e e' : En} {i : Nat} (S : Sl K B F H σ e) (h : unS i e = some e') : Sl K B F H (σ.set i none) e' := by
  obtain ⟨h1, h2, rfl⟩ := put_inv h
  exact S.unset h1 h2
theorem endOut {K : Fg} {wh : Wh} {B : Bs} {F : Hp} {E : Ends} {i : Option Nat} {r r' : Rs} (h : cOut i r = some r') (k : EndOk K wh B F E r') :
    EndOk K wh0 B F { nx := fun s' H' => E.nx (sgo i none s') H', rt := E.rt, bk := fun s' H' => E.bk (sgo i none s') H', ct := fun s' H' => E.ct (sgo i none s') H' } r := by
  cases i with
  | none => cases r <;> first | (cases h; exact k) | cases h
  | some i =>
    cases r with
    | nx e =>
      obtain ⟨e1, q, h⟩ := bd h
      cases h
      exact fun σ' F' H' S s => k _ F' H' (put_un S q) s
    | bk e =>
      obtain ⟨e1, q, h⟩ := bd h
      cases h
      exact fun σ' F' H' S s => k _ F' H' (put_un S q) s
    | ct e =>
      obtain ⟨e1, q, h⟩ := bd h
      cases h
      exact fun σ' F' H' S s => k _ F' H' (put_un S q) s
    | rt d e => cases h; exact k
    | rn d e => cases h; exact k
    | rm s d e => cases h; exact k
    | xx x e => cases h
theorem pick_ok {wh : Wh} {B : Bs} {F : Hp} {E : Ends} {x : Ex} {e : En} {r : Rs} {cs : List Cd} {l : List Cl} (hr : CdR X Tb cs l) (h : pick cs x e = some r) (k : EndOk (X.kg Tb) wh B F E r)
    {cls : Value} {dd : Option Addr} {σ' : L2.St} {F' H' : Hp} (S : Sl (X.kg Tb) B F' H' σ' e) (s : Sub F F') (hx : ExOk (X.kg Tb) B.H0 B.X F' H' x cls dd) : wCl X.K wh.W E l cls dd σ' H' := by
  induction hr with
  | nil =>
    cases h
    exact k cls dd σ' F' H' S s hx
  | @cons m i f c cs l hm hr ih =>
    obtain ⟨b, eb, h⟩ := bd h
    obtain ⟨⟨C, mc, rfl⟩, _⟩ := id hx
    refine ⟨b, hm _ _ _ eb mc, fun hb a na => ?_, fun hb => ?_⟩
    · subst hb
      rw [if_pos rfl] at h
      obtain ⟨e1, q1, h⟩ := bd h
      obtain ⟨r1, q2, h⟩ := bd h
      obtain ⟨F2, s2, S2, hd⟩ := S.caught hx na
      have k2 : EndOk (X.kg Tb) wh0 B F2 _ r1 := (endOut h k).mono (s.trans s2)
      cases i with
      | none =>
        cases q1
        exact ⟨B, F2, e, r1, S2, q2, k2⟩
      | some i =>
        obtain ⟨h1, h2, rfl⟩ := put_inv q1
        exact ⟨B, F2, _, r1, S2.set h1 h2 hd, q2, k2⟩
    · subst hb
      rw [if_neg Bool.false_ne_true] at h
      exact ih h
theorem dS_try {wh : Wh} {b : Sf} {cs : List Cd} {body : List Stmt} {h0 : ExceptHandler} {hs : List ExceptHandler} {pos : Pos} (hst : X.stack = X.env :: X.outer) (hfr : X.env.frame = some X.env.locals) (hex : X.ex = []) (nd : X.N.Nodup) (tk : Takes X wh.W)
    (hb : ∀ (W : WX) (pn : List (Addr × Obj)) (xe : Value → Shared → Prop), Takes (X.tr pn xe) W → PassesOwn (model X.prog X.w) X.A X.env xe → PSs (X.tr pn xe) body (tS (X.kg Tb) ⟨W⟩ b))
    (hh : CdOk X Tb (h0 :: hs) cs) : PS X (.Try body (h0 :: hs) [] [] pos) (tS (X.kg Tb) wh (sTry b cs)) := by
  obtain ⟨l, h1, h2⟩ := hh.cl
  refine PSi (ps_tryT hst hfr hex nd tk hb h1) fun E σ H ⟨B, F, env, r, S, ef, k⟩ => ?_
  obtain ⟨r0, q, ef⟩ := bd ef
  refine ⟨B, F, env, r0, S, q, ?_⟩
  cases r0 with
  | xx x e => exact fun cls dd σ' F' H' S' s' hx => pick_ok h2 ef k S' s' hx
  | nx e => cases ef; exact k
  | bk e => cases ef; exact k
  | ct e => cases ef; exact k
  | rt d e => cases ef; exact k
  | rn d e => cases ef; exact k
  | rm s d e => cases ef; exact k
end
/-! ### isinstance -/
/-- an exception's class, or None's -/
def ExTy (K : Fr) (H : Hp) (v : V) (t : Value) : Prop := (v = .non ∧ t = .type "NoneType") ∨ ∃ a D dd, v = .ref a ∧ t = .ref D ∧ H a = some (ExO a (.ref D) dd) ∧ (dd = none ∨ ∃ d fs, dd = some d ∧ H d = some (.xd fs)) ∧ ExcC K D
end DL
namespace DL
open PySem PySem.W PySem.Spec PySem.Calls PyProof.Rows
section
variable {prog : Program} {w : World} {A : Around} {E : Value → Shared → Prop} {s : Shared} {K : Frag} {x C : Addr} {ox : Obj}
theorem find_cls {od : Option Obj} {name : Str} {v g : Value} (hc : (clsIn K C).isSome = true) (ha : findIn K (.ref C) name = some (some v)) (hg : specialIn K v "__get__" = some (some g)) (ht : takesIn K v = some true) : findObj K C od name = some (.bind g v) := by
  obtain ⟨cd, e⟩ := Option.isSome_iff_exists.mp hc
  unfold findObj
  rw [e, Option.bind_some, ha, Option.bind_some]
  simp [hg, ht]
theorem ask_cls {od : Option Obj} {Q : Option Value → Shared → Prop} (T : L2.ExcC K C) (X : K.In s.heap) (I : PySem.W.InstAt s.heap x ox C od) (h : Q (some (.ref C)) { s with toks := s.toks + 1 }) : wpAny (model prog w) A (getAttr? (.ref x) "__class__") Q E s := by
  have hf : findObj K C od "__class__" = some (.bind (.builtin "getset_descriptor.__get__") (.builtin "object.__class__")) := find_cls (by
    obtain ⟨cd, e, _⟩ := any_some T.hd
    rw [e]; rfl) T.ha T.hn T.ht
  obtain ⟨hp, g, dr, t, os⟩ := s
  have Lt := I.type (M := model prog w)
  have Lg := looks_findIn (M := model prog w) X T.hg
  have Lk := looks_findIn (M := model prog w) X T.hk
  have Lf := looks_find (M := model prog w) X I hf
  have Ls : Looks (model prog w) hp (isInstance (.ref x) (.type "BaseException")) true := Lt.andThen (looks_subIn X T.hs)
  have n1 : (Value.builtin "BaseException.__getattribute__" == Value.builtin "object.__getattribute__") = false := by decide +kernel
  have n0 : (onTheHeap (Value.ref C) && Value.builtin "BaseException.__getattribute__" == Value.builtin "object.__getattribute__") = false := by
    rw [n1]; rfl
  have n2 : (false && onTheHeap (Value.builtin "BaseException.__getattribute__")) = false := rfl
  unfold getAttr? getAttrBy? getAttrBy
  refine wpAny_bind (wpAny_mkText (wpAny_bind (wpAny_attempt (wpAny_holding (wpAny_bind (Lt.at (wpAny_bind (Lg.at ?_))))))))
  show wpAny _ _ (if (onTheHeap (Value.ref C) && Value.builtin "BaseException.__getattribute__" == Value.builtin "object.__getattribute__") = true then _ else _) _ _ _
  rw [n0, if_neg Bool.false_ne_true]
  unfold getAttrByItsOwn hookBefore
  refine wpAny_bind ?_
  rw [if_pos (by rfl : onTheHeap (Value.ref C) = true)]
  refine Lk.at (wpAny_bind (wpAny_attempt (wpAny_holding ?_)))
  unfold callGetattribute
  rw [n2, if_neg Bool.false_ne_true]
  unfold boundAndCalled
  rw [PySem.F.excAttr_ValueError.ga.bind (.ref x)]
  refine wpAny_bind (wpAny_pure ?_)
  show wpAny _ _ (call (.builtin "BaseException.__getattribute__") [.ref x, .str "__class__" t]) _ _ _
  refine wpAny_call (codeAny_call_builtin PySem.F.excAttr_ValueError.ga.plain PySem.F.entry_bexc_ga ?_)
  refine @check_slot (model prog w) _ _ ⟨hp, g, dr, t + 1, os⟩ "BaseException.__getattribute__" "BaseException" "__getattribute__" (.ref x) [.str "__class__" t] [] _ (by decide +kernel) (by decide +kernel) Ls (PySem.F.args_bexc_ga (.ref x) (.str "__class__" t)) ?_
  unfold Builtin.«object.__getattribute__»
  refine wpAny_bind (wpAny_of_eq (a := ((Value.ref x : Value), [Value.str "__class__" t])) (by first | rfl | (simp only [slotArgs]; rfl)) ?_)
  refine wpAny_bind (wpAny_pure (wpAny_bind (Lt.at (wpAny_bind (Lf.at ?_)))))
  show wpAny _ _ (holding [Value.builtin "object.__class__"] (call (.builtin "getset_descriptor.__get__") [.builtin "object.__class__", .ref x, .ref C]) >>= ret) _ _ _
  refine wpAny_bind (wpAny_holding (wpAny_call (class_get (s := ⟨hp, g, dr, t + 1, os⟩) (ox := ox) (od := od) X I T.hm (wpAny_pure ?_))))
  show wpAny _ _ (handedOut (.ref C)) _ _ _
  rw [handedOut_of (v := .ref C) rfl]
  first
    | exact wpAny_pure (wpAny_pure h)
    | exact wpAny_pure h
    | exact wpAny_pure (wpAny_bind (wpAny_pure (wpAny_pure h)))
theorem kitx_kept (T : L2.ExcC K C) : KitX K (.ref x) (.ref C) (fun h => ∃ ox od, PySem.W.InstAt h x ox C od) where
  ty := fun _ _ _ ⟨_, _, I⟩ => I.type
  it := fun _ h X _ => by
    obtain ⟨cd, e, _⟩ := any_some T.hd
    unfold clsIn at e
    split at e
    · rename_i ho
      intro A' Q' E' s' k q
      unfold isType loadHead
      exact wpAny_bind (wpAny_loadPart (k _ _ (X _ _ ho)) (wpAny_pure q))
    · cases e
  ne := fun h tp dd its n sl X htp => by
    obtain ⟨cd, e, _⟩ := any_some T.hd
    refine Bool.eq_false_iff.mpr fun q => ?_
    have e' : C = tp := Value.ref.inj (beq_iff_eq.mp q)
    subst e'
    unfold clsIn at e
    split at e
    · rename_i ho
      have z := (X _ _ ho).symm.trans htp
      cases z
    · cases e
  ca := fun X ⟨_, _, I⟩ k => ask_cls T X I k
end
end DL

/-! DNj: isinstance(e, C), isinstance(e, (C, ..)), e.f of a kept exception; raise C(text). -/
namespace DL
open PySem PySem.Spec PyProof.Rows L2
theorem Lk.at_ {F H : Hp} {a : Addr} {o : HO} (l : Lk F H) (h : F a = some o) (n : ¬ IsDct o) (m : Mk o = false) : H a = some o := by
  rcases l a o h with g | ⟨g, _⟩ | ⟨g, _⟩
  · exact g
  · exact absurd g n
  · rw [m] at g; cases g
theorem kit_kept {X : Cx} {pins : List (Addr × Obj)} {σ : L2.St} {H : Hp} {s : Shared} {v : V} {u t : Value} (I : L2.Inv X pins σ H s) (r : RelV v u) (ty : ExTy X.K H v t) : ∃ P : Heap → Prop, PySem.W.KitX X.K u t P ∧ P s.heap ∧ u ≠ .builtin "__main__.__loader__#opaque" := by
  rcases ty with ⟨rfl, rfl⟩ | ⟨a, D, dd, rfl, rfl, ha, hd, T⟩
  · obtain rfl : u = Value.none := r
    exact ⟨_, PySem.W.kitx_none, trivial, fun z => nomatch z⟩
  · obtain rfl : u = Value.ref a := r
    refine ⟨_, kitx_kept T, ?_, fun z => nomatch z⟩
    obtain ⟨⟨oe, e1, ⟨e2, e3⟩, vs, e4⟩, _⟩ := I.hok a _ ha
    have nc : PySem.W.notCls oe = true := by
      unfold PySem.W.notCls
      rw [e4]
    rcases hd with rfl | ⟨d, fs, rfl, hd⟩
    · exact ⟨oe, none, e1, e2, nc, by rw [e3]; trivial⟩
    · obtain ⟨mA, ns, _⟩ : ObjOk X.prog X.w H s.heap d (.xd fs) := I.hok d _ hd
      obtain ⟨od, ho, _⟩ := lookIn_ns ns
      exact ⟨oe, some od, e1, e2, nc, by rw [e3]; exact ho⟩
def rIsX (K : Fr) : List V → Hp → VK → Prop := fun xs H Q => ∃ v c t cv b, xs = [v, c] ∧ ExTy K H v t ∧ (∀ u, RelV c u → u = cv) ∧ PySem.W.kitOne K t cv = some b ∧ Q (.bl b) H
theorem call_isX {X : Cx} : CallR X (.builtin "isinstance") (rIsX X.K) := by
  intro pins s σ H xs us Q I r h
  obtain ⟨v, c, t, cv, b, rfl, ty, hc, e, q⟩ := h
  obtain ⟨u1, u2, rfl, r1, r2⟩ := vals2 r
  have := hc _ r2
  subst this
  obtain ⟨P, Z, p, hx⟩ := kit_kept I r1 ty
  exact PySem.W.kia_one Z I.kIn p e hx fun tk => ⟨.bl b, H, I.tok tk, rfl, q⟩
def rIsXT (K : Fr) : List V → Hp → VK → Prop := fun xs H Q => ∃ v tp cs t cvs b, xs = [v, .ref tp] ∧ ExTy K H v t ∧ H tp = some (.tup cs) ∧ (∀ us, Vals cs us → us = cvs) ∧ PySem.W.kitAny K t cvs = some b ∧ Q (.bl b) H
theorem call_isXT {X : Cx} : CallR X (.builtin "isinstance") (rIsXT X.K) := by
  intro pins s σ H xs us Q I r h
  obtain ⟨v, tp, cs, t, cvs, b, rfl, ty, ht, hc, e, q⟩ := h
  obtain ⟨u1, u2, rfl, r1, r2⟩ := vals2 r
  obtain rfl : u2 = Value.ref tp := r2
  obtain ⟨P, Z, p, hx⟩ := kit_kept I r1 ty
  obtain ⟨_, its, rv, o, h1, h2, n, h3⟩ : ObjOk X.prog X.w H s.heap tp (.tup cs) := I.hok tp _ ht
  have e3 := hc _ rv
  subst e3
  obtain ⟨oc, od, dt, sl⟩ := o
  simp only at h2 h3
  subst h2 h3
  exact PySem.W.kia_tup Z I.kIn p h1 e hx fun tk => ⟨.bl b, H, I.tok tk, rfl, q⟩
/-- of an exception's class by the table m; of None -/
def gIsX (mn : Option Bool) (m : Mt) : D → Option D
  | .none => mn.map .bool
  | .dict ((.bool false, .str c) :: _) => (m c).map .bool
  | _ => none
section
variable {K : Fg} {F H : Hp}
theorem Bv.exD {v : V} {c : Str} {z : List (D × D)} (h : Bv K F H v (.dict ((.bool false, .str c) :: z))) : Dt K F v (.dict ((.bool false, .str c) :: z)) := by
  refine h.dt fun p ho => ?_
  rcases ho with ⟨kvs, _, t⟩ | ⟨_, _, e, _⟩
  · obtain ⟨k, q⟩ := t.key _ List.mem_cons_self
    cases k <;> cases q
  · cases e
theorem Dt.exTy {v : V} {c : Str} {z : List (D × D)} (h : Dt K F v (.dict ((.bool false, .str c) :: z))) (l : Lk F H) (hT : ∀ C, K.mg c = some (.ref C) → ExcC K.fr C) : ∃ C, K.mg c = some (.ref C) ∧ ExTy K.fr H v (.ref C) := by
  cases h with
  | dk e t =>
    obtain ⟨k, q⟩ := t.key _ List.mem_cons_self
    cases k <;> cases q
  | exc m e => exact ⟨_, m, .inr ⟨_, _, _, rfl, rfl, l.at_ e (fun z => z) rfl, .inl rfl, hT _ m⟩⟩
  | exf m e g t => exact ⟨_, m, .inr ⟨_, _, _, rfl, rfl, l.at_ e (fun z => z) rfl, .inr ⟨_, _, rfl, l.at_ g (fun z => z) rfl⟩, hT _ m⟩⟩
theorem gIsX_ok {mn : Option Bool} {m : Mt} {v : V} {d r : D} {P : Value → Bool → Prop} (h : Bv K F H v d) (l : Lk F H) (e : gIsX mn m d = some r) (hn : ∀ b, mn = some b → P (.type "NoneType") b) (hm : ∀ c b C, m c = some b → K.mg c = some (.ref C) → ExcC K.fr C ∧ P (.ref C) b) :
    ∃ t b, r = .bool b ∧ ExTy K.fr H v t ∧ P t b := by
  unfold gIsX at e
  split at e
  · cases q : mn with
    | none => rw [q] at e; cases e
    | some b =>
      rw [q] at e; cases e
      exact ⟨_, b, rfl, .inl ⟨h.none_inv, rfl⟩, hn b q⟩
  · rename_i c z
    cases q : m c with
    | none => rw [q] at e; cases e
    | some b =>
      rw [q] at e; cases e
      obtain ⟨C, mc, ty⟩ := h.exD.exTy l fun C mc => (hm c b C q mc).1
      exact ⟨_, b, rfl, ty, (hm c b C q mc).2⟩
  · cases e
end
section
variable {X : Cx} {Tb : TbT} {e c : Expr} {p pos : Pos} {o : Opd} {mn : Option Bool} {m : Mt}
theorem de_isX {vc : V} {cv : Value} (hg : Gl X "isinstance") (hmg : X.mg "isinstance" = none) (ha : PE X e (tO (X.kg Tb) o)) (hc : PE X c (tC vc)) (hv : ∀ u, RelV vc u → u = cv)
    (hn : ∀ b, mn = some b → PySem.W.kitOne X.K (.type "NoneType") cv = some b) (hm : ∀ n b C, m n = some b → X.mg n = some (.ref C) → ExcC X.K C ∧ PySem.W.kitOne X.K (.ref C) cv = some b)
    (he : starEach [e, c] X.env = [(false, eval e X.env), (false, eval c X.env)] := by rfl) (he2 : starEach [c] X.env = [(false, eval c X.env)] := by rfl) (hpl : (backTo pos (starEach [c] X.env)).any (·.1) = false := by rfl) :
    PE X (.Call (.Name "isinstance" p) [e, c] [] pos) (tD (X.kg Tb) (op1 (gIsX mn m) o)) :=
  PEi (pe_callB call_isX hg hmg PyProof.Rows.boot_isinstance (pa_cons ha (pa_cons hc pa_nil he2) (by rw [he, he2])) (by decide) (by decide) (by rw [he, he2]) hpl) fun σ H Q ⟨B, F, env, d, env', S, ef, k⟩ => by
    obtain ⟨⟨u, e1⟩, q1, ef⟩ := bd ef
    obtain ⟨x, q2, ef⟩ := bd ef
    obtain ⟨d', q3, ef⟩ := bd ef
    cases ef
    refine ⟨B, F, env, u, _, S, q1, fun v F1 H1 S1 s1 h1 => ?_⟩
    obtain ⟨t, b, rfl, ty, z⟩ := gIsX_ok (K := X.kg Tb) (P := fun t b => PySem.W.kitOne X.K t cv = some b) (h1.bv S1 q2) S1.fh q3 hn hm
    exact ⟨v, vc, t, cv, b, rfl, ty, hv, z, k _ F1 H1 S1 s1 (.bl _)⟩
/-- the classes of a written tuple -/
inductive ClsA (X : Cx) : List Expr → List V → List Value → Prop
  | nil : ClsA X [] [] []
  | cons {c : Expr} {cs : List Expr} {v : V} {vs : List V} {u : Value} {us : List Value} : PE X c (tC v) → (∀ z, RelV v z → z = u) → starEach (c :: cs) X.env = (false, eval c X.env) :: starEach cs X.env → ClsA X cs vs us → ClsA X (c :: cs) (v :: vs) (u :: us)
theorem ClsA.vals {cs : List Expr} {vs : List V} {us : List Value} (h : ClsA X cs vs us) : ∀ ws, Vals vs ws → ws = us := by
  induction h with
  | nil => intro ws r; cases r; rfl
  | cons _ h _ _ ih => intro ws r; cases r with | cons a b => rw [h _ a, ih _ b]
theorem ClsA.pa {cs : List Expr} {vs : List V} {us : List Value} (h : ClsA X cs vs us) : PA X cs (fun σ H Q => Q vs H) := by
  induction h with
  | nil => exact PAi pa_nil fun σ H Q q => q
  | cons h1 _ h3 _ ih => exact PAi (pa_cons h1 ih h3) fun σ H Q q => q
theorem de_isXT {cs : List Expr} {vs : List V} {us : List Value} {j : Nat} {p' : Pos} (hg : Gl X "isinstance") (hmg : X.mg "isinstance" = none) (ha : PE X e (tO (X.kg Tb) o)) (hc : ClsA X cs vs us) (ne : vs ≠ []) (hl : vs.length ≤ 1000) (hk : ∀ ks : List Key, vs ≠ ks.map kV)
    (hn : ∀ b, mn = some b → PySem.W.kitAny X.K (.type "NoneType") us = some b) (hm : ∀ n b C, m n = some b → X.mg n = some (.ref C) → ExcC X.K C ∧ PySem.W.kitAny X.K (.ref C) us = some b)
    (he : starEach [e, .Tuple cs j p'] X.env = [(false, eval e X.env), (false, eval (.Tuple cs j p') X.env)] := by rfl) (he2 : starEach [.Tuple cs j p'] X.env = [(false, eval (.Tuple cs j p') X.env)] := by rfl) (hpl : (backTo pos (starEach [.Tuple cs j p'] X.env)).any (·.1) = false := by rfl) :
    PE X (.Call (.Name "isinstance" p) [e, .Tuple cs j p'] [] pos) (tD (X.kg Tb) (op1 (gIsX mn m) o)) :=
  PEi (pe_callB call_isXT hg hmg PyProof.Rows.boot_isinstance (pa_cons ha (pa_cons (pe_tup hc.pa) pa_nil he2) (by rw [he, he2])) (by decide) (by decide) (by rw [he, he2]) hpl) fun σ H Q ⟨B, F, env, d, env', S, ef, k⟩ => by
    obtain ⟨⟨u, e1⟩, q1, ef⟩ := bd ef
    obtain ⟨x, q2, ef⟩ := bd ef
    obtain ⟨d', q3, ef⟩ := bd ef
    cases ef
    refine ⟨B, F, env, u, _, S, q1, fun v F1 H1 S1 s1 h1 => ⟨by rw [sizeLine_eq]; omega, fun tp np => ?_⟩⟩
    have S2 := S1.laid (o := .tup vs) np (fun ks z => by cases z; exact hk ks rfl)
    have h2 : OVr (X.kg Tb) F1 σ u v := h1
    obtain ⟨t, b, rfl, ty, z⟩ := gIsX_ok (K := X.kg Tb) (P := fun t b => PySem.W.kitAny X.K t us = some b) (h2.bv S2 q2) S2.fh q3 hn hm
    exact ⟨v, tp, vs, t, us, b, rfl, ty, upd_same, hc.vals, z, k _ F1 _ S2 s1 (.bl _)⟩
/-! ### a field -/
def gXf (f : Str) (ok : Str → Bool) : D → Option D
  | .dict [(.bool false, .str c), (.str g, d)] => if (decide (g = f) && ok c) = true then some d else none
  | _ => none
def tXfT (K : Fr) (n : Str) (te : TE) : TE := fun σ H Q => te σ H fun x H1 => ∃ a C dd fs v, x = .ref a ∧ H1 a = some (ExO a (.ref C) (some dd)) ∧ XfC K C ∧ PySem.W.findIn K (.ref C) n = some none ∧ H1 dd = some (.xd fs) ∧ fs.lookup n = some v ∧ Q v H1
theorem pe_xfT {n : Str} {te : TE} (he : PE X e te) (hb : attributeBase e n X.env (eval e X.env) = eval e X.env := by rfl) : PE X (.Attribute e n pos) (tXfT X.K n te) := by
  refine ⟨fun pins s σ H Q I h => attr_of hb (thn (he.run pins s σ H _ I h) fun u s1 z => ?_)⟩
  obtain ⟨x, H1, I1, rx, a, C, dd, fs, v, rfl, ha, T, hno, hd, l, q⟩ := z
  obtain rfl : u = Value.ref a := rx
  obtain ⟨⟨oe, e1, ⟨e2, e3⟩, vs, e4⟩, _⟩ := I1.hok a _ ha
  obtain ⟨mA, ns, hr⟩ : ObjOk X.prog X.w H1 s1.heap dd (.xd fs) := I1.hok dd _ hd
  obtain ⟨od, ho, hl⟩ := lookIn_ns ns
  obtain ⟨u', hu, ru⟩ := RelO.some_of (v := v) (o := mA n) (by
    have := hr n
    rw [l] at this
    exact this)
  have nc : PySem.W.notCls oe = true := by
    unfold PySem.W.notCls
    rw [e4]
  have J : PySem.W.InstAt s1.heap a oe C (some od) := ⟨e1, e2, nc, by rw [e3]; exact ho⟩
  exact HandSPX.exc_get I1.kIn J T.ga T.gg T.exC (PySem.W.findObj_own T.hdC hno rfl (by rw [hl, hu])) (handed_of ru) ⟨v, H1, I1.tok _, ru, q⟩
theorem de_xf {n : Str} {ok : Str → Bool} (ha : PE X e (tO (X.kg Tb) o)) (hT : ∀ c C, ok c = true → X.mg c = some (.ref C) → XfC X.K C ∧ PySem.W.findIn X.K (.ref C) n = some none) (hb : attributeBase e n X.env (eval e X.env) = eval e X.env := by rfl) :
    PE X (.Attribute e n pos) (tD (X.kg Tb) (op1 (gXf n ok) o)) := PEi (pe_xfT ha hb) fun σ H Q ⟨B, F, env, d, env', S, ef, k⟩ => by
  obtain ⟨⟨u, e1⟩, q1, ef⟩ := bd ef
  obtain ⟨x, q2, ef⟩ := bd ef
  obtain ⟨d', q3, ef⟩ := bd ef
  cases ef
  refine ⟨B, F, env, u, _, S, q1, fun v F1 H1 S1 s1 h1 => ?_⟩
  unfold gXf at q3
  split at q3
  · rename_i c g d2
    split at q3
    · rename_i hz
      cases q3
      simp only [Bool.and_eq_true, decide_eq_true_eq] at hz
      obtain ⟨rfl, hz⟩ := hz
      have hd := (h1.bv S1 q2).exD
      cases hd with
      | dk e t =>
        obtain ⟨k, q⟩ := t.key _ List.mem_cons_self
        cases k <;> cases q
      | exf mc ea eb t =>
        obtain ⟨t1, t2⟩ := hT _ _ hz mc
        exact ⟨_, _, _, _, _, rfl, S1.fh.at_ ea (fun z => z) rfl, t1, t2, S1.fh.at_ eb (fun z => z) rfl, by simp [List.lookup], k _ F1 H1 S1 s1 t⟩
    · cases q3
  · cases q3
/-! ### raise C(text), C without an own __init__ -/
def sRaise0 (x : Str) : Sf := fun env => some (.xx ⟨x, none⟩ env)
theorem dS_raise0 {wh : Wh} {x t : Str} {C : Addr} {bmB : List Value} {Bn newId initId : String} {j : Nat} {p1 p2 p3 : Pos} (hc : X.calm = true) (tk : Takes X wh.W) (F : ExcBaseFacts Bn newId initId bmB) (q : PySem.W.excIn X.K C bmB newId = true) (gC : X.mg x = some (.ref C)) (kC : PySem.W.keepIn X.K (.ref C) = true)
    (r : Raises X (.ref C)) (hg : Gl X x) (hdb : (x == ("__debug__" : Str)) = false := by decide) : PS X (.Raise (some (.Call (.Name x p1) [.Constant (.str t) j p2] [] p3)) none pos) (tS (X.kg Tb) wh (sRaise0 x)) :=
  PSi (ps_raise hc tk (pmk_own F q gC kC r hg hdb)) fun E σ H ⟨B, F, env, r, S, ef, kk⟩ => by
    cases ef
    exact kk (.ref C) none σ F H S (Sub.refl _) ⟨⟨C, gC, rfl⟩, rfl⟩
end
end DL

/-! DNk: classes and raising defs as callers want them; what the head tells of classes. -/
namespace DL
open PySem PySem.Spec PyProof.Rows L2
/-- an exception's class with its own __init__, to be raised -/
structure GotE (P : Program) (w : World) (K : Fr) (mg : Str → Option Value) (base : Heap) (k : Nat) (c fld : Str) : Prop where
  ex : ∃ (C fI : Addr) (fd : FuncData) (ps : List Str), mg c = some (.ref C) ∧ OexC K C ∧ PySem.W.findIn K (.ref C) "__init__" = some (some (.ref fI)) ∧ PySem.W.typeIn K (.ref fI) = some (.type "function") ∧ FnOk P w K mg base CX0 k fI fd ps (spI C fld) ∧ Binds K fd ps []
/-- .. without one -/
structure GotE0 (K : Fr) (mg : Str → Option Value) (c : Str) : Prop where
  ex : ∃ C : Addr, mg c = some (.ref C) ∧ PySem.W.excIn K C He.veBase "ValueError.__new__" = true ∧ PySem.W.keepIn K (.ref C) = true ∧ PySem.W.subIn K (.ref C) (.type "BaseException") = some true ∧ PySem.W.typeIn K (.ref C) = some (.type "type")
/-- a def that may raise -/
structure GotX (P : Program) (w : World) (K : Fr) (mg : Str → Option Value) (base : Heap) (k : Nat) (x : Str) (ps : List Str) (sp : Sp) : Prop where
  ex : ∃ (f : Addr) (fd : FuncData), FnOk P w K mg base (L2.CX P w) k f fd ps sp ∧ mg x = some (.ref f) ∧ PySem.W.keepIn K (.ref f) = true ∧ Binds K fd ps []
section
variable {X : Cx} {Tb : TbT} {x : Str} {p pos p3 : Pos} {e : Expr} {es : List Expr} {ps : List Str} {k j : Nat} {fl : List Bool} {g : List D → Option ((D ⊕ Ex) × List D)} {os : List Opd} {wh : Wh}
theorem de_callXG (tk : Takes X wh.W) (G : GotX X.prog X.w X.K X.mg X.base k x ps (spX (X.kg Tb) fl .fz g)) (hr : Room j X.A) (hg : Gl X x) (ha : PA X (e :: es) (tAr (X.kg Tb) os)) (hj : k ≤ j := by decide) (hdb : (x == ("__debug__" : Str)) = false := by decide) (he : starEach (e :: es) X.env = (false, eval e X.env) :: starEach es X.env := by rfl) (hpl : (backTo pos (starEach es X.env)).any (·.1) = false := by rfl) :
    PE X (.Call (.Name x p) (e :: es) [] pos) (tX (X.kg Tb) wh (eCallX fl g os)) := by
  obtain ⟨f, fd, F, m, kp, b⟩ := G.ex
  exact de_callX tk F (hr.mono hj) hg m kp b ha hdb he hpl
theorem de_callTG (G : GotX X.prog X.w X.K X.mg X.base k x ps (spX (X.kg Tb) fl .fz g)) (hr : Room j X.A) (hg : Gl X x) (ha : PA X (e :: es) (tAr (X.kg Tb) os)) (hj : k ≤ j := by decide) (hdb : (x == ("__debug__" : Str)) = false := by decide) (he : starEach (e :: es) X.env = (false, eval e X.env) :: starEach es X.env := by rfl) (hpl : (backTo pos (starEach es X.env)).any (·.1) = false := by rfl) :
    PE X (.Call (.Name x p) (e :: es) [] pos) (tD (X.kg Tb) (eCall fl (told g) os)) := by
  obtain ⟨f, fd, F, m, kp, b⟩ := G.ex
  exact de_callT F (hr.mono hj) hg m kp b ha hdb he hpl
theorem dS_raiseG {fld : Str} {f : Df} (hc : X.calm = true) (tk : Takes X wh.W) (G : GotE X.prog X.w X.K X.mg X.base k x fld) (hr : Room j X.A) (hg : Gl X x) (he : PE X e (tD (X.kg Tb) f)) (hj : k + 1 ≤ j := by decide) (hdb : (x == ("__debug__" : Str)) = false := by decide) (hse : starEach [e] X.env = (false, eval e X.env) :: starEach [] X.env := by rfl) :
    PS X (.Raise (some (.Call (.Name x p) [e] [] pos)) none p3) (tS (X.kg Tb) wh (sRaise x fld f)) := by
  obtain ⟨C, fI, fd, ps, m, T, iC, tI, F1, b⟩ := G.ex
  exact dS_raise hc tk T iC tI F1 (hr.mono hj) b pass0 hg m he hdb hse
theorem dS_raiseG0 {t : Str} {jj : Nat} {p2 : Pos} (hc : X.calm = true) (tk : Takes X wh.W) (G : GotE0 X.K X.mg x) (hg : Gl X x) (hdb : (x == ("__debug__" : Str)) = false := by decide) :
    PS X (.Raise (some (.Call (.Name x p) [.Constant (.str t) jj p2] [] pos)) none p3) (tS (X.kg Tb) wh (sRaise0 x)) := by
  obtain ⟨C, m, q, kC, b, t⟩ := G.ex
  exact dS_raise0 hc tk PySem.F.excBase_ValueError q m kC (raises_own b t) hg hdb
end
/-! ### tables of classes -/
def mt (l : List (Str × Bool)) : Mt := fun c => l.lookup c
section
variable {X : Cx}
theorem mtOk_nil {v : Value} : MtOk X (mt []) v := fun _ _ _ h => nomatch h
theorem mtOk_cons {v : Value} {n : Str} {b : Bool} {l : List (Str × Bool)} (h : ∀ C, X.mg n = some (.ref C) → PySem.W.exmOne X.K (.ref C) v = some b) (r : MtOk X (mt l) v) : MtOk X (mt ((n, b) :: l)) v := fun c b' C e m => by
  unfold mt at e
  rw [List.lookup_cons] at e
  split at e
  · rename_i hq
    cases e
    have := beq_iff_eq.mp hq
    subst this
    exact h C m
  · exact r c b' C e m
def MkOk (X : Cx) (m : Mt) (P : Addr → Bool → Prop) : Prop := ∀ n b C, m n = some b → X.mg n = some (.ref C) → ExcC X.K C ∧ P C b
theorem mkOk_nil {P : Addr → Bool → Prop} : MkOk X (mt []) P := fun _ _ _ h => nomatch h
theorem mkOk_cons {P : Addr → Bool → Prop} {n : Str} {b : Bool} {l : List (Str × Bool)} (h : ∀ C, X.mg n = some (.ref C) → ExcC X.K C ∧ P C b) (r : MkOk X (mt l) P) : MkOk X (mt ((n, b) :: l)) P := fun c b' C e m => by
  unfold mt at e
  rw [List.lookup_cons] at e
  split at e
  · rename_i hq
    cases e
    have := beq_iff_eq.mp hq
    subst this
    exact h C m
  · exact r c b' C e m
def okL (l : List Str) : Str → Bool := fun c => l.contains c
theorem okL_of {l : List Str} {P : Addr → Prop} (h : ∀ c ∈ l, ∀ C, X.mg c = some (.ref C) → P C) : ∀ c C, okL l c = true → X.mg c = some (.ref C) → P C := fun c C e m => h c (by simpa [okL] using e) C m
theorem mkL_nil {P : Addr → Prop} : ∀ c ∈ ([] : List Str), ∀ C, X.mg c = some (.ref C) → P C := fun _ z => nomatch z
theorem mkL_cons {P : Addr → Prop} {n : Str} {l : List Str} (h : ∀ C, X.mg n = some (.ref C) → P C) (r : ∀ c ∈ l, ∀ C, X.mg c = some (.ref C) → P C) : ∀ c ∈ n :: l, ∀ C, X.mg c = some (.ref C) → P C := fun c hc => by
  rcases List.mem_cons.mp hc with rfl | hc
  · exact h
  · exact r c hc
end
/-- the class's name as a value -/
theorem de_cls {X : Cx} {x : Str} {p : Pos} {C : Addr} (hg : Gl X x) (hm : X.mg x = some (.ref C)) (hdb : (x == ("__debug__" : Str)) = false := by decide) : PE X (.Name x p) (tC (.ref C)) := pe_glob hg hm rfl hdb
theorem at_cls {mg : Str → Option Value} {n : Str} {A : Addr} {P : Addr → Prop} (m : mg n = some (.ref A)) (h : P A) : ∀ C, mg n = some (.ref C) → P C := fun C e => by
  rw [m] at e; cases e; exact h
theorem noKey_ref {a : Addr} {vs : List V} (ks : List Key) : (V.ref a :: vs) ≠ ks.map kV := fun h => by
  cases ks with
  | nil => cases h
  | cons k r => cases k <;> cases h
/-- a method of a class, by its place -/
def mth (st : Stmt) (j : Nat) : Stmt := match st with
  | .ClassDef _ _ _ body _ _ _ _ _ _ _ => body.getD j (.Pass ⟨0, 0, 0, 0⟩)
  | _ => .Pass ⟨0, 0, 0, 0⟩
/-! ### what is asked of the head -/
def excCB (K : Fr) (D : Addr) : Bool := decide (PySem.W.findIn K (.ref D) "__getattribute__" = some (some (.builtin "BaseException.__getattribute__"))) && (decide (PySem.W.findIn K (.ref D) "__getattr__" = some none) && (decide (PySem.W.subIn K (.ref D) (.type "BaseException") = some true) && (PySem.W.hasDictIn K D && (decide (PySem.W.findIn K (.ref D) "__class__" = some (some (.builtin "object.__class__"))) &&
  (decide (PySem.W.specialIn K (.builtin "object.__class__") "__get__" = some (some (.builtin "getset_descriptor.__get__"))) && (decide (PySem.W.takesIn K (.builtin "object.__class__") = some true) && decide (PySem.W.mroIn K D (.type "object") = some true)))))))
theorem excCB_ok {K : Fr} {D : Addr} (h : excCB K D = true) : ExcC K D := by
  unfold excCB at h
  simp only [Bool.and_eq_true, decide_eq_true_eq] at h
  obtain ⟨h1, h2, h3, h4, h5, h6, h7, h8⟩ := h
  exact ⟨h1, h2, h3, h4, h5, h6, h7, h8⟩
def oexB (K : Fr) (C : Addr) : Bool := (match K.lookup C with
  | some ⟨.type "type", _, .cls cd, sl⟩ => (match cd.mro, sl.toList with
    | .ref C' :: bm, [_, _, _, _, some (.builtin n), _] => C' == C && (n == "ValueError.__new__" && (!cd.hasDel && (cd.hasDict && PySem.HandSPX.refsVE bm)))
    | _, _ => false)
  | _ => false) && (decide (PySem.W.findIn K (.ref C) "__setattr__" = some (some (.builtin "object.__setattr__"))) && (decide (PySem.W.subIn K (.ref C) (.type "BaseException") = some true) && (decide (PySem.W.typeIn K (.ref C) = some (.type "type")) && PySem.W.keepIn K (.ref C))))
theorem oexB_ok {K : Fr} {C : Addr} (h : oexB K C = true) : OexC K C := by
  unfold oexB at h
  obtain ⟨h0, h⟩ := He.ba h
  obtain ⟨h1, h⟩ := He.ba h
  obtain ⟨h2, h⟩ := He.ba h
  obtain ⟨h3, h4⟩ := He.ba h
  refine ⟨?_, of_decide_eq_true h1, of_decide_eq_true h2, of_decide_eq_true h3, h4⟩
  split at h0
  · rename_i dd cd sl ho
    split at h0
    · rename_i C' bm k0 k1 k2 k3 n k5 hm hs
      simp only [Bool.and_eq_true, beq_iff_eq, Bool.not_eq_true'] at h0
      obtain ⟨rfl, rfl, g1, g2, g3⟩ := h0
      obtain ⟨nm, bs, mro, ns, qn, hd, sn, sub, ab, col, del⟩ := cd
      dsimp only at hm g1 g2
      subst hm g1 g2
      obtain ⟨l⟩ := sl
      simp only at hs
      subst hs
      exact ⟨nm, qn, ns, bs, bm, sn, sub, ab, col, dd, k0, k1, k2, k3, k5, ho, g3⟩
    · cases h0
  · cases h0
def baseB (K : Fr) (B : Addr) : Bool := decide (PySem.W.specialIn K (.ref B) "__getattribute__" = some (some (.builtin "type.__getattribute__"))) && (PySem.W.readsIn K B (.type "type") && (match PySem.W.findCls K (.ref B) (.type "type") "__init__" with
  | some (.val (.builtin n)) => n == "ValueError.__init__"
  | _ => false))
theorem baseB_ok {K : Fr} {B : Addr} (h : baseB K B = true) : BaseC K B := by
  unfold baseB at h
  obtain ⟨h1, h⟩ := He.ba h
  obtain ⟨h2, h3⟩ := He.ba h
  refine ⟨of_decide_eq_true h1, h2, ?_⟩
  split at h3
  · rename_i n e
    rw [e, beq_iff_eq.mp h3]
  · cases h3
def initB (K : Fr) (C : Addr) : Bool := decide (PySem.W.findIn K (.ref C) "__init__" = some (some (.ref (He.ma K C "__init__")))) && decide (PySem.W.typeIn K (.ref (He.ma K C "__init__")) = some (.type "function"))
theorem initB_ok {K : Fr} {C : Addr} (h : initB K C = true) : PySem.W.findIn K (.ref C) "__init__" = some (some (.ref (He.ma K C "__init__"))) ∧ PySem.W.typeIn K (.ref (He.ma K C "__init__")) = some (.type "function") := by
  obtain ⟨h1, h2⟩ := He.ba h
  exact ⟨of_decide_eq_true h1, of_decide_eq_true h2⟩
def kitOneB (K : Fr) (t c : Value) (b : Bool) : Bool := decide (PySem.W.kitOne K t c = some b)
def kitAnyB (K : Fr) (t : Value) (cs : List Value) (b : Bool) : Bool := decide (PySem.W.kitAny K t cs = some b)
def exmB (K : Fr) (t c : Value) (b : Bool) : Bool := decide (PySem.W.exmOne K t c = some b)
def noatB (K : Fr) (C : Addr) (f : Str) : Bool := decide (PySem.W.findIn K (.ref C) f = some none)
/-! ### the Hook: .. and the interpreter's own statics -/
def asZ (g : Addr → Option Obj) (n : Nat) : List Addr := He.asD g n ++ [cStatics]
abbrev frZ (g : Addr → Option Obj) (n : Nat) : Fr := He.frT g (asZ g n)
def obsZ (n : Nat) (fa : List He.Fa) (fn : List He.DefD) (tf : List He.Defn) (ex : Fr → Bool) (g : Addr → Option Obj) : He.AlX := (He.obsT fa fn [] (frZ g n), ex (frZ g n) && He.tabsB g tf (frZ g n))
theorem saysZ {n : Nat} {fa : List He.Fa} {fn : List He.DefD} {tf : List He.Defn} {ex : Fr → Bool} {w : World} {h : Heap} (e : obsZ n fa fn tf ex h.get? = He.valX fn [] w) : He.SaysX fa fn [] tf ex w h (frZ h.get? n) := by
  have e1 : He.obsT fa fn [] (frZ h.get? n) = He.valT fn [] w := congrArg Prod.fst e
  have e2 : (ex (frZ h.get? n) && He.tabsB h.get? tf (frZ h.get? n)) = true := congrArg Prod.snd e
  obtain ⟨h1, h2⟩ := He.ba e2
  have row : ∀ p ∈ tf, PySem.W.codeHdIn (frZ h.get? n) (He.cT (frZ h.get? n) p).1 (He.cT (frZ h.get? n) p).2 = true ∧ ∃ o, h.get? (He.cT (frZ h.get? n) p).2 = some o ∧ He.emptyTab o = true := fun p hp => by
    obtain ⟨g1, g2⟩ := He.ba (List.all_eq_true.mp h2 p hp)
    refine ⟨g1, ?_⟩
    split at g2
    · rename_i o q
      exact ⟨o, q, g2⟩
    · cases g2
  refine ⟨e1, h1, fun p hp => (row p hp).1, fun p hp => ?_, fun p hp => ?_⟩
  · obtain ⟨_, o, q, z⟩ := row p hp
    exact He.frT_none q z
  · obtain ⟨_, o, q, z⟩ := row p hp
    rw [q, He.emptyTab_eq z]
def hookZ (n : Nat) (fa : List He.Fa) (fn : List He.DefD) (tf : List He.Defn) (ex : Fr → Bool) : PySem.W.Hook where
  α := He.AlX
  obs := fun s => obsZ n fa fn tf ex s.heap.get?
  val := fun w => He.valX fn [] w
  says := fun w h => ∃ K : Fr, K.In h ∧ He.SaysX fa fn [] tf ex w h K
  of := fun _ _ e => ⟨_, He.frT_in, saysZ e⟩
  keeps := fun _ _ _ ⟨K, hK, c⟩ k => ⟨K, PySem.W.Frag.In.keeps hK k, ⟨c.t, c.more, c.hd, c.out, fun p hp => k _ _ (c.empty p hp)⟩⟩
theorem obsZ_eq {n : Nat} {fa : List He.Fa} {fn : List He.DefD} {tf : List He.Defn} {ex : Fr → Bool} {g : Addr → Option Obj} {s : Shared} (h : ∀ a, g a = s.heap.get? a) : obsZ n fa fn tf ex g = (hookZ n fa fn tf ex).obs s := by
  obtain rfl : g = s.heap.get? := funext h
  rfl
theorem tabs_nil {H : Hp} : LamX.Tabs [] H := fun _ z => nomatch z
theorem xfa_ok {K : Fr} {C : Addr} {f : Str} (h : (xfB K C && noatB K C f) = true) : XfC K C ∧ PySem.W.findIn K (.ref C) f = some none := by
  obtain ⟨h1, h2⟩ := He.ba h
  exact ⟨xfB_ok h1, of_decide_eq_true h2⟩
end DL

/-! DOa: a lambda with one parameter, handed to a built-in (key=): its making, its calls. -/
namespace DL
open PySem PySem.Spec PyProof.Rows L2
/-- the lambda's names: its parameter p, captured ones, globals -/
structure LamP (sc scope : Scope) (p : Str) : Prop where
  kind : scope.kind = .function
  co : scope.isCoroutine = false
  gen : scope.isGenerator = false
  par : scope.names.lookup p = some .local
  own : ∀ y ∈ scope.names, y.2 ≠ .cell ∧ (y.2 = .local → y.1 = p)
  free : ∀ y ∈ scope.names, y.2 = .free → sc.names.lookup y.1 = some .cell ∨ sc.names.lookup y.1 = some .free
def lamPB (sc scope : Scope) (p : Str) : Bool :=
  decide (scope.kind = .function) && (!scope.isCoroutine && (!scope.isGenerator && (decide (scope.names.lookup p = some .local) && scope.names.all fun y => !decide (y.2 = .cell) && ((!decide (y.2 = .local) || decide (y.1 = p)) && (!decide (y.2 = .free) || (decide (sc.names.lookup y.1 = some .cell) || decide (sc.names.lookup y.1 = some .free)))))))
theorem lamP_by {sc scope : Scope} {p : Str} (h : lamPB sc scope p = true) : LamP sc scope p := by
  unfold lamPB at h
  simp only [Bool.and_eq_true, Bool.or_eq_true, Bool.not_eq_true', decide_eq_true_eq, decide_eq_false_iff_not, List.all_eq_true] at h
  obtain ⟨h1, h2, h3, h4, h5⟩ := h
  refine ⟨h1, h2, h3, h4, fun y hy => ⟨(h5 y hy).1, fun z => ?_⟩, fun y hy z => ?_⟩
  · rcases (h5 y hy).2.1 with w | w
    · exact absurd z w
    · exact w
  · rcases (h5 y hy).2.2 with w | w
    · exact absurd z w
    · exact w
theorem LamP.has {X : Cx} {scope : Scope} {p : Str} (L : LamP X.env.scope scope p) (ok : X.Ok) : ∀ y ∈ scope.names, y.2 = .free → ∃ c, X.env.cells.lookup y.1 = some c := fun y hy e => by
  rcases L.free y hy e with k | k
  · exact ok.has _ (.inl k)
  · exact ok.has _ (.inr k)
/-- the context of the lambda's body -/
def lamCxP (X : Cx) (A : Around) (s : Shared) (H : Hp) (scope : Scope) (f c' : Addr) (p : Str) : Cx where
  prog := X.prog
  w := X.w
  K := X.K
  mg := X.mg
  base := X.base
  A := A.deeper (LamX.lamEnv X scope s.heap.objs.size f c')
  N := X.N ++ [p]
  s_0 := s
  H_0 := H
  env := LamX.lamEnv X scope s.heap.objs.size f c'
  outer := X.stack
  stack := LamX.lamEnv X scope s.heap.objs.size f c' :: X.stack
  ex := []
  fn := fun _ => false
  calm := true
  pn := []
  xe := fun _ _ => False
section
variable {X : Cx} {pins : List (Addr × Obj)} {σ : L2.St} {H : Hp} {s : Shared}
theorem lam_startP {A : Around} {scope : Scope} {f c' : Addr} {p : Str} {v : V} {u : Value} {h1 : Heap} {tk : Nat} (I : L2.Inv X pins σ H s) (L : LamP X.env.scope scope p) (hA : A.frames = some X.stack) (hd : A.handled = none) (hp : p ∉ X.N) (rv : RelV v u)
    (hns : h1.Ns s.heap.objs.size fun y => ([(p, u)] : List (Str × Value)).reverse.lookup y) (kp : ∀ b o, s.heap.get? b = some o → h1.get? b = some o) :
    L2.Inv (lamCxP X A s H scope f c' p) [] (σ ++ [some v]) H { s with heap := h1, toks := tk } := by
  have hfree := L.has I.ok
  have e0 := I.env0
  have cm : ∀ {y c}, (cloFrom X.env.cells scope.names []).lookup y = some c → X.env.cells.lookup y = some c := fun {y c} e => by
    rcases cloFrom_mem (PySem.mem_of_lookup e) with hm | ⟨g1, g2⟩
    · cases hm
    · obtain ⟨c1, hc⟩ := hfree _ g1 rfl
      have hc : X.env.cells.lookup y = some c1 := hc
      have e2 : c = c1 := by
        rw [g2, hc] <;> rfl
      rw [e2]; exact hc
  have look : ∀ {y}, scope.names.lookup y = some .free → ∃ c, (cloFrom X.env.cells scope.names []).lookup y = some c := fun {y} hl =>
    mem_lookup (cloFrom_has (cells := X.env.cells) (acc := []) (PySem.mem_of_lookup hl))
  have cellK : ∀ {c : Addr} {z : Option Value}, s.heap.IsCell c z → h1.IsCell c z := fun {c z} ⟨o, ho, hd⟩ => ⟨o, kp _ _ ho, hd⟩
  have noEx : ∀ b : Addr, b ∉ (lamCxP X A s H scope f c' p).ex := fun b z => nomatch (show b ∈ ([] : List Addr) from z)
  refine ⟨⟨e0.mod, L.kind, rfl, rfl, Nat.le_refl _, fun y z c q1 q2 => I.ok.inj y z c (cm q1) (cm q2), fun y hy => ?_, fun y c z _ => absurd (show false = true from z) Bool.false_ne_true, fun _ => hd, Around.frames_deeper hA, .inr ⟨rfl, rfl⟩, fun b z => absurd z (noEx b), e0.bs, e0.bsz, fun b _ _ => noEx b, fun b z => absurd z (noEx b), e0.funs, e0.frf⟩,
    rfl, e0.bare, Un.kept kp, ⟨_, hns, fun i y z q1 q2 q3 => ?_⟩, fun y c e => ?_, e0.hok.fresh (Nat.le_refl _), fun y c e => I.freeC y c (cm e), fun q hq => absurd (show q ∈ ([] : List (Addr × Obj)) ++ [] from hq) (by simp), e0.hok.kept kp, ?_⟩
  · have hy : scope.names.lookup y = some .cell ∨ scope.names.lookup y = some .free := hy
    rcases hy with hy | hy
    · exact absurd rfl (L.own _ (PySem.mem_of_lookup hy)).1
    · exact look hy
  · have q3 : Vis scope y := q3
    have q1 : (X.N ++ [p])[i]? = some y := q1
    have len := I.len
    by_cases hi : i < X.N.length
    · rw [List.getElem?_append_left hi] at q1
      rw [List.getElem?_append_left (by rw [len]; exact hi)] at q2
      have ny : y ≠ p := fun z => hp (z ▸ List.mem_of_getElem? q1)
      rcases q3 with k | k | k
      · exact absurd ((L.own _ (PySem.mem_of_lookup k)).2 rfl) ny
      · exact absurd rfl (L.own _ (PySem.mem_of_lookup k)).1
      · obtain ⟨m, hn, hl⟩ := I.loc
        have hvis : Vis X.env.scope y := (L.free _ (PySem.mem_of_lookup k) rfl).elim (fun k => .inr (.inl k)) (fun k => .inr (.inr k))
        obtain ⟨w', r, q⟩ := hl i y z q1 q2 hvis
        obtain ⟨c2, h2⟩ := look k
        refine ⟨w', r, .inr ⟨.inr k, c2, h2, ?_⟩⟩
        have c1 := cm h2
        rcases q with ⟨k', _⟩ | ⟨_, c3, e', z⟩
        · have k' : X.env.scope.names.lookup y = some .local := k'
          rcases L.free _ (PySem.mem_of_lookup k) rfl with k2 | k2 <;> rw [show X.env.scope.names.lookup y = _ from k2] at k' <;> cases k'
        · rw [c1] at e'; cases e'
          exact cellK z
    · have hi' : X.N.length ≤ i := Nat.le_of_not_lt hi
      rw [List.getElem?_append_right hi'] at q1
      rw [List.getElem?_append_right (by rw [len]; exact hi')] at q2
      have i0 : i - X.N.length = 0 := by
        rcases Nat.eq_zero_or_pos (i - X.N.length) with z | z
        · exact z
        · rw [List.getElem?_eq_none (by simp; omega)] at q1; cases q1
      rw [i0] at q1
      rw [show i - σ.length = 0 by rw [len]; exact i0] at q2
      cases q1
      cases q2
      exact ⟨u, rv, .inl ⟨L.par, by simp [List.lookup]⟩⟩
  · obtain ⟨w', z⟩ := I.cell y c (cm e)
    exact ⟨w', cellK z⟩
  · show (σ ++ [some v]).length = (X.N ++ [p]).length
    rw [List.length_append, List.length_append, I.len]; rfl
/-- the call f(u) within a built-in -/
theorem lam_callP {params : Arguments} {body : Expr} {scope : Scope} {f c' : Addr} {p : Str} {pm ctv : Value} {v : V} {u : Value} {tb : TE} {k : Nat} {Q : VK} {E : Value → Shared → Prop} (I : L2.Inv X pins σ H s) (L : LamP X.env.scope scope p)
    (hf : s.heap.get? f = some (PySem.W.kla_obj "<lambda>" (X.env.qual ++ "<lambda>") params body scope (cloFrom X.env.cells scope.names []) pm c' ctv)) (hc : H c' = some (LamX.CodeO c' (X.env.qual ++ "<lambda>"))) (hr : Room (k + 2) X.A) (hp : p ∉ X.N)
    (hbind : bindArgs (PySem.W.kla_fn "<lambda>" (X.env.qual ++ "<lambda>") params body scope (cloFrom X.env.cells scope.names []) pm (.ref c') ctv) ⟨[u], []⟩ = pure [(p, u)])
    (hbody : ∀ (A : Around) (s : Shared) (H : Hp), Room k (A.deeper (LamX.lamEnv X scope s.heap.objs.size f c')) → PE (lamCxP X A s H scope f c' p) body tb) (rv : RelV v u) (q : tb (σ ++ [some v]) H Q) :
    wpAny (model X.prog X.w) X.A.in1 (call (.ref f) [u]) (EP X pins σ Q) E s := by
  have hr1 : Room (k + 1) X.A.in1 := hr.in1
  obtain ⟨⟨oc, vs, t, hoc, hdc, hvc⟩, _, _⟩ := I.hok c' _ hc
  have rc : codeAny (model X.prog X.w) X.A.in1 (.call (.ref f) ⟨[u], []⟩) (fun r s' => match r with
      | .ok (.ret w) => EP X pins σ Q w s'
      | _ => False) s := by
    refine PySem.W.kla_callFunE hr1.depth hf rfl L.co L.gen rfl ⟨c', oc, vs, t, rfl, hoc, hdc, hvc⟩ ?_
    rw [hbind]
    refine wpAny_pure (wpAny_newFunctionEnv (fun y hy => (L.own y hy).1) (fun y hy => ?_) (fun h1 hns hsb => ⟨I.nolimit.fresh _ hsb, ?_⟩) L.kind)
    · rw [List.mem_singleton] at hy
      rw [hy]; exact L.par
    show codeAny _ _ (.expr body (LamX.lamEnv X scope s.heap.objs.size f c')) _ _
    have kp : ∀ b o, s.heap.get? b = some o → h1.get? b = some o := fun b o e => hsb.extBut b o (Nat.ne_of_lt (Heap.lt_size e)) (Heap.get?_push_of_some _ e)
    have J := lam_startP (A := X.A.in1) (f := f) (c' := c') (tk := s.toks + ([(p, u)] : List (Str × Value)).length) I L I.env0.in1.frames hr1.hd hp rv hns kp
    refine PySem.W.kla_codeExpr (wpAny_mono ((hbody _ s H (hr1.deeper _)).run [] _ _ H Q J q) (fun w s' z => ?_) fun _ _ z => z.elim)
    obtain ⟨w', H', J', rw', q'⟩ := z
    exact I.after ⟨w', H', J'.os, J'.bare, J'.base, J'.hok, rw', q'⟩
  refine wpAny_call (codeAny_mono rc fun r s' z => ?_)
  cases r with
  | error e => exact z.elim
  | ok fl =>
    cases fl with
    | ret w => exact z
    | next => exact z.elim
    | brk => exact z.elim
    | cont => exact z.elim
end
end DL

/-! DOb: a lambda made, its table alone changed; f(lambda: e), f a def that calls what it got within try. -/
namespace DL
open PySem PySem.Spec PyProof.Rows L2
/-- all but the table at P stays -/
def ExtP (P : Addr) (H H' : Hp) : Prop := ∀ b, H' b = H b ∨ (b = P ∧ ∃ ps, H' b = some (.tbl ps)) ∨ (H b = none ∧ ∃ q, H' b = some (LamX.CodeO b q))
theorem ExtP.kp {P : Addr} {H H' : Hp} (h : ExtP P H H') : ∀ b o, H b = some o → b ≠ P → H' b = some o := fun b o e n => by
  rcases h b with z | ⟨z, _⟩ | ⟨z, _⟩
  · rw [z]; exact e
  · exact absurd z n
  · rw [e] at z; cases z
section
variable {X : Cx} {pins : List (Addr × Obj)} {σ : L2.St} {H : Hp} {s : Shared}
theorem fresh_frs (I : L2.Inv X pins σ H s) {f : Addr} (hf : s.heap.objs.size ≤ f) : f ∉ frs X.stack := fun z => by
  rcases List.mem_cons.mp (I.stkSub _ z) with e | e
  · have h1 := I.lt
    rw [← e] at h1
    exact Nat.lt_irrefl _ (Nat.lt_of_lt_of_le h1 hf)
  · exact I.nofs hf e
abbrev lamO (X : Cx) (params : Arguments) (body : Expr) (scope : Scope) (pm : Value) (c' : Addr) (ctv : Value) : Obj := PySem.W.kla_obj "<lambda>" (X.env.qual ++ "<lambda>") params body scope (cloFrom X.env.cells scope.names []) pm c' ctv
theorem lam_make3 {T : TbT} {c P : Addr} {params : Arguments} {body : Expr} {scope : Scope} {pos : Pos} {E : Value → Shared → Prop} {Q : Value → Shared → Prop} (I : L2.Inv X pins σ H s) (TB : LamX.TabB X.base X.mg c P) (hcode : X.env.code = .ref c)
    (hm : (P, X.env.qual ++ "<lambda>") ∈ T) (hu : ∀ p ∈ T, p.1 = P → p.2 = X.env.qual ++ "<lambda>") (hT : LamX.Tabs T H) (hdef : defaultsOf params X.env = ([], [])) (hfree : ∀ y ∈ scope.names, y.2 = .free → ∃ c, X.env.cells.lookup y.1 = some c)
    (h : ∀ (f c' : Addr) (pm ctv : Value) (H1 : Hp) (s' : Shared), L2.Inv X pins σ H1 s' → ExtP P H H1 → LamX.Tabs T H1 → s'.heap.get? f = some (lamO X params body scope pm c' ctv) → H1 f = none → f ∉ frs X.stack → H1 c' = some (LamX.CodeO c' (X.env.qual ++ "<lambda>")) → Q (.ref f) s') :
    wpAny (model X.prog X.w) X.A (eval (.Lambda params body scope pos) X.env) Q E s := by
  obtain ⟨ps, hP, ht, ha⟩ := hT _ hm
  have bP : s.heap.BuiltinsAt X.mg P := TB.bm.keeps I.bk
  have oP : s.heap.get? P = some { cls := .none, data := .fields ps } := I.hok P _ hP
  refine PySem.W.kla_eval hdef ?_
  rcases hc : codeAmong pos ps.toList with _ | cv
  · refine PySem.W.kla_makeFunction (mg := X.mg) (c := c) (P := P) (ps := ps) (closure_ok hfree) I.ok.glob (I.mod.glob.keeps I.bk) hcode (TB.code.keeps I.bk) oP ht hc TB.gP bP fun c' ctv h' tk hx hge hlt hrec htb => ?_
    obtain ⟨c2, oc, vs, t, e2, hoc, hd, hv⟩ := hrec
    cases e2
    have hsz : s.heap.objs.size ≤ h'.objs.size := by omega
    have nC : H c' = none := I.hok.fresh hge
    have eP : P ≠ c' := ne_of_none hP nC
    have J := LamX.inv_table (t' := tk) (more := #[rawInt pos.line, rawInt pos.col, .ref c']) (h' := h'.push (lamO X params body scope ((X.mg "__name__").getD .none) c' ctv)) I hP
      (fun b o hb e => Heap.get?_push_of_some _ (hx b o hb e)) (Heap.get?_push_of_some _ htb) hge ⟨oc, vs, t, Heap.get?_push_of_some _ hoc, hd, hv⟩
    have xp : ExtP P H (upd (upd H P (.tbl (ps ++ #[rawInt pos.line, rawInt pos.col, .ref c']))) c' (LamX.CodeO c' (X.env.qual ++ "<lambda>"))) := fun b => by
      by_cases z : b = c'
      · rw [z]; exact .inr (.inr ⟨nC, _, upd_same⟩)
      · by_cases y : b = P
        · rw [y]; exact .inr (.inl ⟨rfl, _, by rw [upd_ne eP, upd_same]⟩)
        · exact .inl (by rw [upd_ne z, upd_ne y])
    have kp := xp.kp
    have codes : ∀ {a : Addr} {q : Str}, H a = some (LamX.CodeO a q) → a ≠ P := fun {a q} e z => by
      rw [z, hP] at e
      exact LamX.codeO_ne ps (Option.some.inj e).symm
    refine h h'.objs.size c' ((X.mg "__name__").getD .none) ctv _ _ J xp (fun p hp => ?_) (Heap.get?_push_size _ rfl) ?_ (fresh_frs I hsz) upd_same
    · by_cases hb : p.1 = P
      · have el : (ps ++ #[rawInt pos.line, rawInt pos.col, Value.ref c']).toList = ps.toList ++ [rawInt pos.line, rawInt pos.col, .ref c'] := by simp
        refine ⟨_, by rw [hb, upd_ne eP, upd_same], by rw [el]; exact PySem.TriplesOk_snoc _ _ _ _ ht, fun p' cv hcv => ?_⟩
        rw [el] at hcv
        rw [hu p hp hb]
        rcases LamX.among_app _ ht hcv with z | z
        · obtain ⟨c0, e1, e2⟩ := ha p' cv z
          exact ⟨c0, e1, kp _ _ e2 (codes e2)⟩
        · exact ⟨c', z, upd_same⟩
      · obtain ⟨ps', a1, a2, a3⟩ := hT p hp
        refine ⟨ps', kp _ _ a1 hb, a2, fun p' cv hcv => ?_⟩
        obtain ⟨c0, e1, e2⟩ := a3 p' cv hcv
        exact ⟨c0, e1, kp _ _ e2 (codes e2)⟩
    · have l1 := Heap.lt_size oP
      rw [upd_ne (Nat.ne_of_gt hlt), upd_ne (Nat.ne_of_gt (Nat.lt_of_lt_of_le l1 hsz))]
      exact I.hok.fresh hsz
  · obtain ⟨c', e, hco⟩ := ha pos cv hc
    subst e
    refine PySem.W.kla_makeFunctionHit (mg := X.mg) (c := c) (P := P) (ps := ps) (closure_ok hfree) I.ok.glob (I.mod.glob.keeps I.bk) hcode (TB.code.keeps I.bk) oP ht hc bP fun ctv h' tk hx hsz => ?_
    exact h h'.objs.size c' ((X.mg "__name__").getD .none) ctv H _ (I.kept fun b o e => Heap.get?_push_of_some _ (hx b o e)) (fun _ => .inl rfl) hT (Heap.get?_push_size _ rfl) (I.hok.fresh hsz) (fresh_frs I hsz) hco
end
/-! ### the def that got the lambda -/
theorem takes_len {X : Cx} {W : WX} (tk : Takes X W) : Takes X (fun cls d σ H => σ.length = X.N.length → W cls d σ H) := fun u s' x => tk u s' (by
  obtain ⟨a, gr, sJ, pz, τ, G, cl, dd, e0, J0, inG, ups, sk, nG, eos, bare, want⟩ := x
  exact ⟨a, gr, sJ, pz, τ, G, cl, dd, e0, J0, inG, ups, sk, nG, eos, bare, want J0.len⟩)
theorem un_at {n i : Nat} {x : Sv} (h : (List.replicate n Sv.un)[i]? = some x) : x = .un := by
  rw [List.getElem?_replicate] at h
  split at h
  · exact (Option.some.inj h).symm
  · cases h
section
variable {K : Fg} {B : Bs} {F H : Hp} {σ : L2.St} {env : En}
/-- names of which nothing is known -/
theorem sl_un {n : Nat} (fh : Lk F H) (nm : NoMk F) (kt : KP K F H) (hl : σ.length = n) : Sl K ⟨F, H, [], [], [], K.tb⟩ F H σ (List.replicate n .un) := by
  have S0 : Sl K ⟨F, H, [], [], [], K.tb⟩ F H (L2.start [] []) (env0 0 [] []) := sl_entry (N := []) (fl := []) (vs := []) (ds := []) .nil fh nm kt fun _ _ _ z => nomatch z
  have no : ∀ {i : Nat} {d : D}, ¬ IsOw (List.replicate n Sv.un) i d := fun {i d} o => by
    rcases o with o | o <;> cases un_at o
  have noT : ∀ {i : Nat} {s : Sh} {d : D}, ¬ IsTr (List.replicate n Sv.un) i s d := fun {i s d} o => by
    rcases o with o | o <;> cases un_at o
  exact ⟨S0.fh, by rw [List.length_replicate, hl], (fun i d e => by cases un_at e), fun i d o => (no o).elim, fun i j d e p a => (no a).elim, (fun q hq => nomatch hq), S0.f0, S0.nw, S0.kp, S0.lc, (fun q hq => nomatch hq), S0.lk, fun i s d o => (noT o).elim, S0.mr, S0.gv, S0.kt, S0.tb⟩
/-- what is raised, its dict one of the others -/
def ExF (K : Fg) (F : Hp) (x : Ex) (cls : Value) (dd : Option Addr) : Prop := (∃ C, K.mg x.c = some (.ref C) ∧ cls = .ref C) ∧ match x.fld with
  | none => dd = none
  | some (f, d) => ∃ p v, dd = some p ∧ F p = some (.xd [(f, v)]) ∧ Dt K F v d
theorem ExF.mono {F' : Hp} {x : Ex} {cls : Value} {dd : Option Addr} (h : ExF K F x cls dd) (s : Sub F F') : ExF K F' x cls dd := by
  obtain ⟨h1, h2⟩ := h
  obtain ⟨c, fld⟩ := x
  refine ⟨h1, ?_⟩
  cases fld with
  | none => exact h2
  | some q =>
    obtain ⟨f, d⟩ := q
    obtain ⟨p, v, e, h3, h4⟩ := h2
    exact ⟨p, v, e, s _ _ h3 rfl, h4.mono s⟩
theorem Sl.excF (S : Sl K B F H σ env) {x : Ex} {cls : Value} {dd : Option Addr} (hx : ExOk K B.H0 B.X F H x cls dd) : ∃ F2, Sub F F2 ∧ Sl K B F2 H σ env ∧ ExF K F2 x cls dd := by
  obtain ⟨h1, h2⟩ := hx
  obtain ⟨c, fld⟩ := x
  cases fld with
  | none => exact ⟨F, Sub.refl F, S, h1, h2⟩
  | some q =>
    obtain ⟨f, d⟩ := q
    obtain ⟨p, v, rfl, n0, nx, nF, hp, hd⟩ := h2
    have s2 : Sub F (upd F p (.xd [(f, v)])) := Sub.new nF
    exact ⟨_, s2, S.froze hp nF n0 (fun i d o z => by
      obtain ⟨q, g1, _, g3, _⟩ := S.own i d o
      rw [z] at g1; cases g1
      exact g3.noxd hp) nx rfl, h1, p, v, rfl, upd_same, hd.mono s2⟩
theorem Sl.caughtF (S : Sl K B F H σ env) {x : Ex} {cls : Value} {dd : Option Addr} {a : Addr} (hx : ExF K F x cls dd) (na : H a = none) :
    ∃ F2, Sub F F2 ∧ Sl K B F2 (upd H a (ExO a cls dd)) σ env ∧ Dt K F2 (.ref a) (excD x.c x.fld) := by
  obtain ⟨⟨C, m, rfl⟩, h2⟩ := hx
  obtain ⟨c, fld⟩ := x
  have S1 := S.new (o := ExO a (.ref C) dd) na
  have s1 := S.subNew (o := ExO a (.ref C) dd) na
  refine ⟨_, s1, S1, ?_⟩
  cases fld with
  | none =>
    have h2 : dd = none := h2
    subst h2
    exact .exc m upd_same
  | some q =>
    obtain ⟨f, d⟩ := q
    obtain ⟨p, v, rfl, hp, hd⟩ := h2
    exact .exf m upd_same (s1 _ _ hp rfl) (hd.mono s1)
end
section
variable {X : Cx} {Tb : TbT}
theorem pickF_ok {B : Bs} {F : Hp} {E : Ends} {x : Ex} {e : En} {r : Rs} {cs : List Cd} {l : List Cl} (hr : CdR X Tb cs l) (h : pick cs x e = some r) (nx : ∀ x e, r ≠ .xx x e) (k : EndOk (X.kg Tb) wh0 B F E r)
    {cls : Value} {dd : Option Addr} {σ' : L2.St} {F' H' : Hp} (S : Sl (X.kg Tb) B F' H' σ' e) (s : Sub F F') (hx : ExF (X.kg Tb) F' x cls dd) : wCl X.K wh0.W E l cls dd σ' H' := by
  induction hr with
  | nil =>
    cases h
    exact absurd rfl (nx _ _)
  | @cons m i f c cs l hm hr ih =>
    obtain ⟨b, eb, h⟩ := bd h
    obtain ⟨⟨C, mc, rfl⟩, _⟩ := id hx
    refine ⟨b, hm _ _ _ eb mc, fun hb a na => ?_, fun hb => ?_⟩
    · subst hb
      rw [if_pos rfl] at h
      obtain ⟨e1, q1, h⟩ := bd h
      obtain ⟨r1, q2, h⟩ := bd h
      obtain ⟨F2, s2, S2, hd⟩ := S.caughtF hx na
      have k2 : EndOk (X.kg Tb) wh0 B F2 _ r1 := (endOut h k).mono (s.trans s2)
      cases i with
      | none =>
        cases q1
        exact ⟨B, F2, e, r1, S2, q2, k2⟩
      | some i =>
        obtain ⟨h1, h2, rfl⟩ := put_inv q1
        exact ⟨B, F2, _, r1, S2.set h1 h2 hd, q2, k2⟩
    · subst hb
      rw [if_neg Bool.false_ne_true] at h
      exact ih h
end
/-- the end of such a def -/
def finL : Rs → Option D
  | .nx _ => some .none
  | .rt d _ => some d
  | _ => none
theorem lamEnd {K : Fg} {B : Bs} {F H : Hp} {σ : L2.St} {env : En} {r : Rs} {d : D} {Q : VK} (S : Sl K B F H σ env) (hr : finL r = some d) (kk : ∀ v F' H', Sl K B F' H' σ env → Sub F F' → Dt K F' v d → Q v H') :
    EndOk K wh0 ⟨er F, H, [], [], [], K.tb⟩ (er F) { nx := fun _ H' => Q .non H', rt := Q } r := by
  have go : ∀ {σ' : L2.St} {F' H' : Hp} {e : En} {v : V}, Sl K ⟨er F, H, [], [], [], K.tb⟩ F' H' σ' e → Sub (er F) F' → Dt K F' v d → Q v H' := fun {σ' F' H' e v} S' s hd => by
    have nw : ∀ p, er F p = none → er F' p ≠ none → H p = none ∧ ∀ ob u, er F' p = some u → H' p ≠ some (.frz ob u) := fun p a b => by
      have b' : F' p ≠ none := fun z => b (er_none z)
      refine ⟨S'.nw p a b', fun ob u e h => ?_⟩
      rcases S'.lk p ob u (er_some e) h with z | ⟨z, _⟩
      · cases z
      · have n0 := S'.nw p a b'
        dsimp only at z n0
        rw [n0] at z; cases z
    have kp : ∀ p o, H p = some o → ¬ K.tb p → H' p = some o := fun p o a c => S'.kp p o a (fun _ z => nomatch z) (fun _ z => nomatch z) c
    have s1 : Sub (er F) (er F') := s.trans (er_sub _)
    have kpm : ∀ p o m, F p = some (.own m) → H p = some o → (∀ j, (j, p) ∉ ([] : List (Nat × Addr))) → H' p = some o := fun p o m e h n => kp p o h (S.ntF e)
    have sb := mg_sub (er_no F') S.fh nw
    have kt' := S'.kpE
    refine kk v (mg F (er F')) H' (S.extT (mg_lk (M := []) S.fh (er_lk S'.fh) (fun q z => nomatch z) kpm) (mg_old s1) (mg_nw nw) kp (fun _ _ z => mg_mk z) (mg_new (er_no F')) (mg_kt (M := []) S.kt S.fh kt'.kt (fun q z => nomatch z) kpm) kt'.tb) (mg_old s1) ((hd.mono (er_sub _)).mono sb)
  cases r with
  | nx e => cases hr; exact fun σ' F' H' S' s => go S' s .non
  | rt d' e => cases hr; exact fun v σ' F' H' S' s hd => go S' s hd
  | rn d' e => cases hr
  | rm s0 d' e => cases hr
  | xx x e => cases hr
  | bk e => cases hr
  | ct e => cases hr
/-- the def's way behind the call of what it got -/
def oneOf (r : D ⊕ Ex) : Sf := fun env => match r with
  | .inl _ => some (.nx env)
  | .inr x => some (.xx x env)
def gTh (n : Nat) (cs : List Cd) (rest : Sf) (r : D ⊕ Ex) : Option D := (sq (sTry (oneOf r) cs) rest (List.replicate n .un)).bind finL
def eLam (h : D ⊕ Ex → Option D) (f : Dx) : Df := fun env => (f env).bind fun r => (h r.1).bind fun d => some (d, r.2)
/-- a def whose one parameter is called within try, first of all -/
structure GotL (P : Program) (w : World) (K : Fr) (mg : Str → Option Value) (base : Heap) (Tb : TbT) (k : Nat) (x : Str) (h : D ⊕ Ex → Option D) : Prop where
  ex : ∃ (g : Addr) (fd : FuncData) (st : Stmt) (Ng : List Str) (a : Str) (p1 p2 p3 p4 : Pos) (h0 : ExceptHandler) (hs : List ExceptHandler) (rest : List Stmt) (cs : List Cd) (rf : Sf), FnP K x st g fd ∧ mg x = some (.ref g) ∧ PySem.W.keepIn K (.ref g) = true ∧ Binds K fd [a] [] ∧ FnScope Ng [a] (defScope st) ∧
    defBody st = .Try [.Expr (.Call (.Name a p1) [] [] p2) p3] (h0 :: hs) [] [] p4 :: rest ∧ Ng[0]? = some a ∧ Vis (defScope st) a ∧ (a == ("__debug__" : Str)) = false ∧ (a == ("__classdict__" : Str)) = false ∧ h = gTh Ng.length cs rf ∧
    ∀ (cdv : Value) (A : Around) (outer : List Env) (s : Shared) (H : Hp), Room k (A.deeper (envOfC x (defScope st) s.heap.objs.size g cdv)) →
      CdOk (cxOf CX0 P w K mg base Ng x (defScope st) g cdv A outer s H C8.E0).nox Tb (h0 :: hs) cs ∧ PSs (cxOf CX0 P w K mg base Ng x (defScope st) g cdv A outer s H C8.E0).nox rest (tS ⟨K, mg, Tb⟩ wh0 rf)
section
variable {X : Cx} {Tb : TbT} {x : Str} {c P : Addr} {k : Nat} {h : D ⊕ Ex → Option D} {params : Arguments} {body : Expr} {scope : Scope} {f : Dx} {p lpos pos : Pos}
/-- x(lambda: body) -/
theorem de_lamc (G : GotL X.prog X.w X.K X.mg X.base Tb k x h) (hg : Gl X x) (TB : LamX.TabB X.base X.mg c P) (hcode : X.env.code = .ref c) (hmT : (P, X.env.qual ++ "<lambda>") ∈ Tb) (hu : ∀ p ∈ Tb, p.1 = P → p.2 = X.env.qual ++ "<lambda>") (hr : Room (k + 2) X.A) (L : LamX.LamS X.env.scope scope) (hdef : defaultsOf params X.env = ([], []))
    (hbind : ∀ (q : Str) (cl : List (Str × Addr)) (pm cv ctv : Value), bindArgs (PySem.W.kla_fn "<lambda>" q params body scope cl pm cv ctv) ⟨[], []⟩ = pure [])
    (hbody : ∀ (A : Around) (outer : List Env) (s : Shared) (H : Hp) (E : XK) (f0 c' : Addr), Room k (A.deeper (LamX.lamEnv X scope s.heap.objs.size f0 c')) → PE (LamX.lamCx X A outer s H E scope f0 c') body (tX (X.kg Tb) ⟨fun cls d _ H => E cls d H⟩ f))
    (hdb : (x == ("__debug__" : Str)) = false := by decide) :
    PE X (.Call (.Name x p) [.Lambda params body scope lpos] [] pos) (tD (X.kg Tb) (eLam h f)) := by
  refine ⟨fun pins s σ H Q I q => ?_⟩
  obtain ⟨B, F, env, d, env', S, ef, kk⟩ := q
  obtain ⟨⟨r, e1⟩, q1, ef⟩ := bd ef
  obtain ⟨d', q2, ef⟩ := bd ef
  cases ef
  obtain ⟨g, fd, st, Ng, a, p1, p2, p3, p4, h0, hs, rest, cs, rf, FP, hm, hk, hb, Sg, eb, hN, hva, hd1, hd2, rfl, walk⟩ := G.ex
  obtain ⟨oc, od, dV, kV, doc, pm, an, cdv, ct, osl, rfl, lk, hcd, _, _⟩ := FP.ex
  refine wpAny_Call_Name_kw (ld_glob I hg hm ?_ hdb)
  refine PySem.W.callWith_K (h₀ := X.base) I.ok.mod.kin hk ?_ (by rfl) (by rfl)
  show wpAny _ _ (spliced ((false, eval (.Lambda params body scope lpos) X.env) :: backTo pos (starEach [] X.env))) _ _ s
  refine Calls.spliced_cons (lam_make3 I TB hcode hmT hu S.tb.now hdef (L.has I.ok) fun f0 c' pm' ctv H1 s' I1 eP T1 hf hfn hfr hco => ?_)
  refine Calls.spliced_nil ⟨I1.kIn, ?_⟩
  have S1 : Sl (X.kg Tb) B F H1 σ env := by
    have hb' : (X.kg Tb).tb P := ⟨_, hmT⟩
    have kp : ∀ p o, H p = some o → ¬ (X.kg Tb).tb p → H1 p = some o := fun p o e n => eP.kp p o e fun z => n (z ▸ hb')
    refine S.extT ?_ (Sub.refl F) (fun p a b => absurd a b) kp (fun _ _ z => z) (fun _ _ z => z) ?_ T1
    · intro a o e
      rcases eP a with z | ⟨z, _⟩ | ⟨z, _⟩
      · rw [z]; exact S.fh a o e
      · rw [z, S.tbF hb'] at e; cases e
      · rcases S.fh a o e with y | ⟨_, _, y⟩ | ⟨_, y⟩
        · rw [z] at y; cases y
        · rw [z] at y; cases y
        · exact absurd z y
    · intro a ks e
      rcases eP a with z | ⟨_, _, z⟩ | ⟨_, _, z⟩
      · rw [z] at e; exact S.kt a ks e
      · rw [z] at e; cases e
      · rw [z] at e; unfold LamX.CodeO at e; cases e
  have rc : codeAny (model X.prog X.w) X.A (.call (.ref g) ⟨[.ref f0], []⟩) (CR CX0 X.stack X.prog X.w H1 s' Q C8.E0) s' := by
    refine LamX.run_ofS (N := Ng) (ps := [a]) (us := [.ref f0]) (vs := [.ref f0]) lk hcd Sg (hr.mono (by omega)) I1.env0 (hb s' [.ref f0] I1.kIn rfl) (.cons rfl .nil) rfl fun (hr' : Room (k + 1) _) => ?_
    obtain ⟨w1, w2⟩ := walk cdv X.A X.stack s' H1 (hr'.mono (by omega))
    obtain ⟨l, c1, c2⟩ := w1.cl
    obtain ⟨rr, q3, q4⟩ := bd q2
    obtain ⟨r2, q5, q6⟩ := bd q3
    have try_ := ps_tryT (X := (cxOf CX0 X.prog X.w X.K X.mg X.base Ng x (defScope st) g cdv X.A X.stack s' H1 C8.E0).nox) (pos := p4) (Wo := wh0.W) (body := [.Expr (.Call (.Name a p1) [] [] p2) p3])
      (tb := fun W D τ G => ∃ E : XK, (∀ cls dd σ' H', E cls dd H' → σ'.length = Ng.length → W cls dd σ' H') ∧ τ[0]? = some (some (.ref f0)) ∧ G c' = some (LamX.CodeO c' (X.env.qual ++ "<lambda>")) ∧ tX (X.kg Tb) ⟨fun cls d _ H => E cls d H⟩ f σ G (fun _ G' => D.nx τ G'))
      rfl rfl rfl Sg.nd LamX.takes0 (fun W pn xe tk _ => ⟨fun pinsZ sZ τ G D IZ ⟨E, hE, a1, a2, a3⟩ => ?_⟩) c1
    · rw [eb]
      refine ⟨_, (pss_cons try_ w2).nox, ⟨fun cls dd H' => ∀ σ', σ'.length = Ng.length → wCl X.K wh0.W _ l cls dd σ' H', fun cls dd σ' H' z hl => z σ' hl, ?_, hco, B, F, env, r, e1, S1, q1, fun d0 v F' H' er0 S' s0 _ => ?_, fun x0 cls dd F' H' er0 S' s0 hx σ' hl => ?_⟩⟩
      · show (L2.start Ng [.ref f0])[0]? = _
        unfold L2.start
        rfl
      · subst er0
        have e2 : (some (Rs.nx (List.replicate Ng.length Sv.un)) : Option Rs) = some r2 := q5
        cases e2
        exact ⟨_, er F', List.replicate Ng.length .un, rr, sl_un (er_lk S'.fh) (er_no _) S'.kpE (by have := (List.getElem?_eq_some_iff.mp hN).1; simp [L2.start]; omega), q6, lamEnd S' q4 fun v G' H'' S2 s2 hd => kk v G' H'' S2 (s0.trans s2) hd⟩
      · subst er0
        obtain ⟨F2, s2, S2, hF⟩ := S'.excF hx
        have e2 : pick cs x0 (List.replicate Ng.length .un) = some r2 := q5
        have le := lamEnd S2 q4 fun v G' H'' S3 s3 hd => kk v G' H'' S3 ((s0.trans s2).trans s3) hd
        have nx : ∀ x e, r2 ≠ .xx x e := fun x e z => by
          subst z
          cases q6; cases q4
        refine pickF_ok (F := er F2) c2 e2 nx ?_ (sl_un (er_lk S2.fh) (er_no _) S2.kpE hl) (Sub.refl _) (hF.mono (er_sub _))
        cases r2 with
        | nx e3 => exact fun σ3 F3 H3 S3 s3 => ⟨_, F3, e3, rr, S3, q6, le.mono s3⟩
        | rt d3 e3 => cases q6; exact le
        | rn d3 e3 => cases q6; cases q4
        | rm s3 d3 e3 => cases q6; cases q4
        | bk e3 => cases q6; cases q4
        | ct e3 => cases q6; cases q4
        | xx x3 e3 => exact absurd rfl (nx _ _)
    · exact (pss_one (ps_expr (LamX.pe_act (CXg := CX0) (Eg := C8.E0) (Ng := Ng) (i := 0) (E := E) I1 L hf hfn hfr (hbind _ _ _ _ _) (takes_len tk) (fun cls dd σ' H' z hl => hE cls dd σ' H' z hl) hr' (fun A outer s H hr2 => hbody A outer s H E f0 c' hr2) hN hva hd1 hd2))).run pinsZ sZ τ G D IZ ⟨a1, a2, a3⟩
  refine wpAny_call (codeAny_mono rc fun r s2 hq => ?_)
  cases r with
  | error e => exact (show False from hq).elim
  | ok fl =>
    cases fl with
    | ret u => exact I1.after hq
    | next => exact False.elim hq
    | brk => exact False.elim hq
    | cont => exact False.elim hq
end
end DL

/-! DOc: the end of a law whose defs make lambdas. -/
namespace DL
open PySem PySem.Spec PyProof.Rows L2
/-- the heap of the script and the tables: what it tells -/
structure TabH (K : Fr) (cs : List (Addr × Addr)) (a : Addr) (ns : List Int) (H : Hp) : Prop where
  tab : ∀ p ∈ cs, H p.2 = some (.tbl #[])
  only : ∀ b, H b = none ∨ (∃ p ∈ cs, p.2 = b) ∨ (b = a ∧ K.lookup a = none ∧ ∃ o xs, H b = some (.frz o (.lst xs)))
  scr : SqL K H a (ns.map V.int)
theorem law_callGT {P : Program} {w : World} {K : Fr} {mg mb : Str → Option Value} {k : Nat} {fa a : Addr} {cs : List (Addr × Addr)} {fd : FuncData} {x : Str} {sp : Sp} {s1 : Shared} {vs : List Value} {ns : List Int}
    (inn : K.In s1.heap) (hns : s1.heap.Ns mainGlobals mg) (hb : s1.heap.Ns builtinsNs mb) (hbb : ∀ y : Str, y ≠ "__name__" → mb y = bootBuiltins y) (hlim : s1.heap.NoLimit) (hg : s1.gens = #[])
    (hT : ∀ p ∈ cs, s1.heap.get? p.2 = some { cls := .none, data := .fields #[] }) (nT : ∀ p ∈ cs, K.lookup p.2 = none) (C : ∀ p ∈ cs, PySem.W.CodeHd s1.heap p.1 p.2)
    (hbm : ∃ (bm : Addr) (ob : Obj), mg "__builtins__" = some (.ref bm) ∧ bm ≠ builtinsNs ∧ s1.heap.get? bm = some ob ∧ ob.cls = .type "module" ∧ ob.dict = some builtinsNs ∧ ob.data = .plain)
    (ha : s1.heap.get? a = some { cls := .type "list", data := .seq vs.toArray }) (hi : IntsAre vs ns) (hl : ns.length ≤ sizeLine) (hr : Room k callerA)
    (G : ∀ base : Heap, K.In base → base.Ns mainGlobals mg → (∀ p ∈ cs, LamX.TabB base mg p.1 p.2) → FnOkG P w K mg base k fa fd [x] sp) (bind : ∀ (s : Shared) (u : Value), BindsTo s fd ⟨[u], []⟩ [(x, u)])
    (hsp : ∀ H : Hp, (∀ p ∈ cs, H p.2 = some (.tbl #[])) → SqL K H a (ns.map V.int) → sp [.ref a] H (fun v _ => v = .bl true) fun _ _ _ => False) :
    codeAny (model P w) callerA (.call (.ref fa) ⟨[.ref a], []⟩) (fun r s' => r = .ok (.ret (.bool true)) ∧ OldK s1.heap s'.heap ∧ s'.os = s1.os ∧ AllBare s'.gens) s1 := by
  have rv := vals_ints hi
  have lenV := hi.length
  have na : ∀ p ∈ cs, p.2 ≠ a := fun p hp z => by
    have q := hT p hp
    rw [z, ha] at q
    cases q
  have main : ∀ H : Hp, TabH K cs a ns H → HOk P w H s1.heap → codeAny (model P w) callerA (.call (.ref fa) ⟨[.ref a], []⟩) (fun r s' => r = .ok (.ret (.bool true)) ∧ OldK s1.heap s'.heap ∧ s'.os = s1.os ∧ AllBare s'.gens) s1 := by
    intro H hH hok
    -- what is neither a list nor an empty table is not tracked
    have free : ∀ {b : Addr} {o : Obj}, s1.heap.get? b = some o → (∀ vs n, o.data ≠ .seq vs n) → o.data ≠ .fields #[] → H b = none := fun {b o} e h1 h2 => by
      rcases hH.only b with z | ⟨p, hp, z⟩ | ⟨z, _⟩
      · exact z
      · rw [← z, hT p hp] at e; cases e
        exact absurd rfl h2
      · rw [z, ha] at e; cases e
        exact absurd rfl (h1 _ _)
    have atD : ∀ {b : Addr} {o : Obj} {es : Array DictEntry} {ep : Nat}, s1.heap.get? b = some o → o.data = .dict es ep → (hidT s1.heap H).get? b = some o := fun {b o es ep} e d => hidT_get e (free e (fun _ _ z => by rw [d] at z; cases z) (fun z => by rw [d] at z; cases z))
    have nsK : ∀ {b : Addr} {m : Str → Option Value}, s1.heap.Ns b m → (hidT s1.heap H).Ns b m := fun {b m} ⟨o, es, ep, e, d, r⟩ => ⟨o, es, ep, atD e d, d, r⟩
    have hK : K.In (hidT s1.heap H) := fun b o e => hidT_get (inn b o e) (by
      rcases hH.only b with z | ⟨p, hp, z⟩ | ⟨z, n, _⟩
      · exact z
      · rw [← z, nT p hp] at e; cases e
      · rw [z, n] at e; cases e)
    have lim' : (hidT s1.heap H).NoLimit := by
      obtain ⟨mc, h1, h2⟩ := hlim
      exact ⟨mc, nsK h1, h2⟩
    have TB : ∀ p ∈ cs, LamX.TabB (hidT s1.heap H) mg p.1 p.2 := fun p hp => by
      have hTp := hT p hp
      obtain ⟨o, es, ep, eG, dG, rG⟩ := id hns
      refine ⟨?_, ?_, fun z => by rw [z, hTp] at eG; cases eG; cases dG⟩
      · obtain ⟨o, us, file, tf, flags, tg, inF, text, tt, e1, r1, r2, r3, r⟩ := C p hp
        exact ⟨o, us, file, tf, flags, tg, inF, text, tt, hidT_get e1 (free e1 (fun _ _ z => by rw [r2] at z; cases z) (fun z => by rw [r2] at z; cases z; simp at r3)), r1, r2, r3, r⟩
      · obtain ⟨bm, ob, b1, b2, b3, b4, b5, b6⟩ := hbm
        exact ⟨bm, ob, b1, b2, (fun q => by rw [q, eG] at b3; cases b3; rw [dG] at b6; cases b6), (fun q => by rw [q, hTp] at b3; cases b3; cases b6), hidT_get b3 (free b3 (fun _ _ z => by rw [b6] at z; cases z) (fun z => by rw [b6] at z; cases z)), b4, b5, b6⟩
    have e0 : Env0 P w K mg (hidT s1.heap H) callerA [] s1 H := ⟨rfl, ⟨hK, nsK hns, ⟨mb, nsK hb, hbb⟩, lim'⟩, fun b o e => of_hidT e, Nat.le_of_eq (hidT_size _ _), trivial, fun b hb => absurd (show b ∈ ([] : List Addr) from hb) (by simp), hok, .of_eq hg⟩
    refine codeAny_mono ((G _ hK (nsK hns) TB).run callerA [] s1 H ⟨[.ref a], []⟩ [.ref a] [.ref a] _ _ rfl hr e0 (bind s1 (.ref a)) (.cons rfl .nil) (hsp H hH.tab hH.scr)) fun r s' h => ?_
    cases r with
    | error e => exact h.elim
    | ok fl =>
      cases fl with
      | next => exact h.elim
      | brk => exact h.elim
      | cont => exact h.elim
      | ret u =>
        obtain ⟨v, H', os, bare, un, hok', r', q⟩ := h
        have q' : v = .bl true := q
        subst q'
        obtain rfl : u = Value.bool true := r'
        have at_ : ∀ b o, s1.heap.get? b = some o → (s'.heap.get? b = some o) ∨ (∃ p ∈ cs, p.2 = b ∧ o = { cls := .none, data := .fields #[] } ∧ ∃ more, s'.heap.get? b = some { cls := .none, data := .fields more }) := fun b o e => by
          rcases hH.only b with z | ⟨p, hp, z⟩ | ⟨_, _, ob, xs, z⟩
          · exact .inl (un.keep b o e z (fun y => absurd (show b ∈ ([] : List Addr) from y) (by simp)) (by simp))
          · obtain ⟨more, y⟩ := un.tbls p.2 #[] (hH.tab p hp)
            have y' := hok' p.2 _ y
            rw [← z] at e ⊢
            rw [hT p hp] at e; cases e
            exact .inr ⟨p, hp, rfl, rfl, _, y'⟩
          · obtain ⟨e1, _⟩ := hok b _ z
            obtain ⟨e2, _⟩ := hok' b _ (un.frzs b ob _ z)
            rw [e] at e1; cases e1
            exact .inl e2
        refine ⟨rfl, ⟨fun b o e => ?_, fun b o e => ?_⟩, os, bare⟩
        · rcases at_ b o e with z | ⟨p, hp, rfl, rfl, more, hm⟩
          · exact .inl z
          · exact .inr (.inl ⟨((C p hp).tab (hT p hp)).isCodeTable, rfl, #[], more, rfl, by rw [Array.empty_append]; exact hm⟩)
        · rcases at_ b o e with z | ⟨_, _, _, _, more, hm⟩
          · exact ⟨_, z⟩
          · exact ⟨_, hm⟩
  let tb : Addr → Bool := fun b => cs.any fun p => p.2 == b
  have tb1 : ∀ p ∈ cs, tb p.2 = true := fun p hp => List.any_eq_true.mpr ⟨p, hp, by simp⟩
  have tb2 : ∀ b, tb b = true → ∃ p ∈ cs, p.2 = b := fun b h => by
    obtain ⟨p, hp, e⟩ := List.any_eq_true.mp h
    exact ⟨p, hp, beq_iff_eq.mp e⟩
  cases hk : K.lookup a with
  | some o =>
    have e := inn a o hk
    rw [ha] at e
    cases e
    refine main (fun b => if tb b = true then some (.tbl #[]) else none) ⟨fun p hp => if_pos (tb1 p hp), fun b => ?_, .inr ⟨_, vs.toArray, _, hk, rfl, rfl, rfl, by rw [List.size_toArray, lenV]; exact hl, by simpa using rv⟩⟩ fun b u z => ?_
    · by_cases hb : tb b = true
      · exact .inr (.inl (tb2 b hb))
      · exact .inl (if_neg hb)
    · by_cases hb : tb b = true
      · have z' := (if_pos hb).symm.trans z
        cases z'
        obtain ⟨p, hp, rfl⟩ := tb2 b hb
        exact hT p hp
      · have z' := (if_neg hb).symm.trans z
        cases z'
  | none =>
    refine main (fun b => if b = a then some (.frz { cls := .type "list", data := .seq vs.toArray } (.lst (ns.map V.int))) else if tb b = true then some (.tbl #[]) else none) ⟨fun p hp => (if_neg (na p hp)).trans (if_pos (tb1 p hp)), fun b => ?_, .inl (.inr ⟨{ cls := .type "list", data := .seq vs.toArray }, if_pos rfl⟩)⟩ fun b u z => ?_
    · by_cases hb : b = a
      · exact .inr (.inr ⟨hb, hk, _, _, if_pos hb⟩)
      · by_cases hb2 : tb b = true
        · exact .inr (.inl (tb2 b hb2))
        · exact .inl ((if_neg hb).trans (if_neg hb2))
    · by_cases hb : b = a
      · have z' := (if_pos hb).symm.trans z
        cases z'
        rw [hb]
        exact ⟨ha, by rw [List.length_map]; exact hl, vs, _, rv, ha⟩
      · have z1 := (if_neg hb).symm.trans z
        by_cases hb2 : tb b = true
        · have z' := (if_pos hb2).symm.trans z1
          cases z'
          obtain ⟨p, hp, rfl⟩ := tb2 b hb2
          exact hT p hp
        · have z' := (if_neg hb2).symm.trans z1
          cases z'
/-- the goal that the head leaves -/
theorem walkGT {l : PySem.W.OpenLaw} {n k : Nat} {q : Program} {loose : List Str} {XP : (Str → Option Value) → Heap → Prop} {YP : World → Heap → Prop} {d : DefRec} {x : Str}
    (hn : l.most = some n) (hn2 : n ≤ sizeLine) (hdf : d.params.defaults = []) (hr : Room k callerA)
    (G : ∀ (w : World) (mg : Str → Option Value) (fa : Addr) (h : Heap), YP w h → h.Ns mainGlobals mg → mg d.name = some (.ref fa) →
      ∃ (K : Fr) (fd : FuncData) (sp : Sp) (cs : List (Addr × Addr)), K.In h ∧ (∀ p ∈ cs, h.get? p.2 = some { cls := .none, data := .fields #[] }) ∧ (∀ p ∈ cs, K.lookup p.2 = none) ∧ (∀ p ∈ cs, PySem.W.CodeHd h p.1 p.2) ∧ (∀ (s : Shared) (u : Value), BindsTo s fd ⟨[u], []⟩ [(x, u)]) ∧
        (∀ (H : Hp) (a : Addr) (ns : List Int), ns.length ≤ n → (∀ p ∈ cs, H p.2 = some (.tbl #[])) → SqL K H a (ns.map V.int) → sp [.ref a] H (fun v _ => v = .bl true) fun _ _ _ => False) ∧
        ∀ base : Heap, K.In base → base.Ns mainGlobals mg → (∀ p ∈ cs, LamX.TabB base mg p.1 p.2) → FnOkG l.prog w K mg base k fa fd [x] sp) : PySem.W.WalkO q loose XP YP l.row.toRowW d [] (fun f vs => PySem.call f vs) := by
  refine Att.attach_call hn hdf fun w s0 s1 mg mb fa o pm cd doc a vs ns Gr Y ho hd hcd hmg hobj hints hlen hg => ?_
  obtain ⟨K, fd, sp, cs, inn, hT, nT, C, hb, hsp, hF⟩ := G w mg fa _ Y Gr.T.g hmg
  exact law_callGT inn Gr.T.g Gr.T.b Gr.T.builtins Gr.T.nolimit hg hT nT C Gr.T.bmain hobj hints (Nat.le_trans hlen hn2) hr hF hb fun H hH hS => hsp H a ns hlen hH hS
/-! ### defs that make lambdas -/
structure LamAt (base : Heap) (mg : Str → Option Value) (Tb : TbT) (code : Value) (q : Str) : Prop where
  ex : ∃ c P, code = .ref c ∧ LamX.TabB base mg c P ∧ (P, q) ∈ Tb ∧ ∀ p ∈ Tb, p.1 = P → p.2 = q
theorem code_at {K : Fr} {p : Str × Option Str} {x q : Str} {pa : Arguments} {bo : List Stmt} {sc : Scope} {dvs : List V} {kws : List (Str × V)} {fd : FuncData} (F : FunD K x q pa bo sc dvs kws (He.fAd K p) fd) : fd.code = .ref (He.codeOf K p) := by
  obtain ⟨oc, od, dV, kV, doc, pm, an, cdv, ct, osl, rfl, lk, hcd, _, _⟩ := F.ex
  obtain ⟨c, rfl⟩ := He.codeIn_ref hcd
  rw [He.codeOf_eq lk (c := c) rfl]
theorem okGC {P : Program} {w : World} {K : Fr} {mg : Str → Option Value} {base : Heap} {qual : Str} {st : Stmt} {f : Addr} {fd : FuncData} {N ps : List Str} {k : Nat} {sp : Sp} (F : FnP K qual st f fd) (S : FnScope N ps (defScope st)) (len : ∀ vs H Q E, sp vs H Q E → vs.length = ps.length)
    (body : ∀ (cdv : Value), fd.code = cdv → ∀ (A : Around) (outer : List Env) (s : Shared) (H : Hp) (vs : List V) (Q : VK) (E : XK), (A.deeper (PyProof.Rows.envOfC qual (defScope st) s.heap.objs.size f cdv)).guards = some [] → Room k (A.deeper (PyProof.Rows.envOfC qual (defScope st) s.heap.objs.size f cdv)) → sp vs H Q E →
      ∃ t, PSs (cxOf CX0 P w K mg base N qual (defScope st) f cdv A outer s H E).nox (defBody st) t ∧ t { nx := fun _ H' => Q .non H', rt := Q } (L2.start N vs) H) : FnOkG P w K mg base (k + 1) f fd ps sp := by
  obtain ⟨oc, od, dV, kV, doc, pm, an, cdv, ct, osl, rfl, lk, hcd, _, _⟩ := F.ex
  refine ⟨len, fun A outer s H args us vs Q E gd hr e0 hb rv hsp => ?_⟩
  have inn : K.In s.heap := e0.mod.kin.keeps fun b o z => (e0.bs b o z).1
  have lim : s.heap.NoLimit := e0.mod.nolimit.keeps fun b o z => (e0.bs b o z).1
  refine codeAny_call_function hr.depth (inn _ _ lk) rfl S.co S.gen rfl (PySem.W.codeRec_of inn hcd) (hb _ _ _ _ ?_)
  refine wpAny_newFunctionEnv_cells S.kind (fun y hy => ?_) fun env he s1 x1 => ?_
  · obtain ⟨n, v⟩ := y
    rcases S.par n (List.of_mem_zip hy).1 with q | q
    · exact .inl q
    · exact .inr ⟨q, PySem.W.cellsFrom_some _ _ _ (.inl q)⟩
  subst he
  refine ⟨lim.keeps x1.toInCall.keep, codeAny_func ?_⟩
  obtain ⟨t, ht, hq⟩ := body cdv rfl A outer s H vs Q E gd (hr.deeper _) hsp
  have I := inv_start (CX := CX0) (E := E) S hr.hd e0 (len _ _ _ _ hsp) rv x1
  refine wpAny_mono (ht.nox.run [] s1 (L2.start N vs) H _ I hq) (fun fl s' hs => ?_) fun _ _ z => z
  have fin : ∀ {σ' : L2.St} {H' : Hp} {v : V} {u : Value}, L2.Inv (cxOf CX0 P w K mg base N qual (defScope st) f cdv A outer s H E) [] σ' H' s' → RelV v u → Q v H' → CE outer P w H s Q u s' := fun {σ' H' v u} J r q => ⟨v, H', J.os, J.bare, J.base, J.hok, r, q⟩
  cases fl with
  | ret u => obtain ⟨v, σ', H', J, r, q⟩ := hs; exact fin J r q
  | next => obtain ⟨σ', H', J, q⟩ := hs; exact fin (v := V.non) (u := Value.none) J rfl q
  | brk => obtain ⟨_, _, _, q⟩ := hs; exact q.elim
  | cont => obtain ⟨_, _, _, q⟩ := hs; exact q.elim
theorem okPC {P : Program} {w : World} {K : Fr} {mg : Str → Option Value} {base : Heap} {x : Str} {st : Stmt} {f : Addr} {fd : FuncData} {N ps : List Str} {k : Nat} {sp : Sp} (F : FnP K x st f fd) (S : FnScope N ps (defScope st)) (len : ∀ vs H Q E, sp vs H Q E → vs.length = ps.length)
    (body : ∀ (cdv : Value), fd.code = cdv → ∀ (A : Around) (outer : List Env) (s : Shared) (H : Hp) (vs : List V) (Q : VK) (E : XK), Room k (A.deeper (PyProof.Rows.envOfC x (defScope st) s.heap.objs.size f cdv)) → sp vs H Q E →
      ∃ t, PSs (cxOf CX0 P w K mg base N x (defScope st) f cdv A outer s H E).nox (defBody st) t ∧ t { nx := fun _ H' => Q .non H', rt := Q } (L2.start N vs) H) : FnOk P w K mg base CX0 (k + 1) f fd ps sp := by
  obtain ⟨oc, od, dV, kV, doc, pm, an, cdv, ct, osl, rfl, lk, hcd, _, _⟩ := F.ex
  refine fn_of lk hcd S len fun A outer s H vs Q E hr hsp => ?_
  obtain ⟨t, h, q⟩ := body cdv rfl A outer s H vs Q E hr hsp
  exact ⟨t, h.nox, q⟩
section
variable {X : Cx} {Tb : TbT} {x : Str} {k j : Nat} {h : D ⊕ Ex → Option D} {params : Arguments} {body : Expr} {scope : Scope} {f : Dx} {p lpos pos : Pos}
theorem de_lamG (G : GotL X.prog X.w X.K X.mg X.base Tb k x h) (La : LamAt X.base X.mg Tb X.env.code (X.env.qual ++ "<lambda>")) (hr : Room j X.A) (hg : Gl X x) (hj : k + 2 ≤ j) (L : LamX.LamS X.env.scope scope)
    (hbody : ∀ (A : Around) (outer : List Env) (s : Shared) (H : Hp) (E : XK) (f0 c' : Addr), Room k (A.deeper (LamX.lamEnv X scope s.heap.objs.size f0 c')) → Takes (LamX.lamCx X A outer s H E scope f0 c') (fun cls d _ H => E cls d H) → PE (LamX.lamCx X A outer s H E scope f0 c') body (tX (X.kg Tb) ⟨fun cls d _ H => E cls d H⟩ f))
    (hdef : defaultsOf params X.env = ([], []) := by rfl) (hbind : ∀ (q : Str) (cl : List (Str × Addr)) (pm cv ctv : Value), bindArgs (PySem.W.kla_fn "<lambda>" q params body scope cl pm cv ctv) ⟨[], []⟩ = pure [] := by intro _ _ _ _ _; rfl)
    (hdb : (x == ("__debug__" : Str)) = false := by decide) :
    PE X (.Call (.Name x p) [.Lambda params body scope lpos] [] pos) (tD (X.kg Tb) (eLam h f)) := by
  obtain ⟨c, P, hc, TB, hm, hu⟩ := La.ex
  exact de_lamc G hg TB hc hm hu (hr.mono hj) L hdef hbind (fun A outer s H E f0 c' hr' => hbody A outer s H E f0 c' hr' (takes_of rfl rfl rfl rfl)) hdb
end
end DL

/-! DOd: own exceptions straight over a built-in class other than ValueError, with an own __init__ that keeps one field. -/
namespace DL
open PySem PySem.Spec PyProof.Rows L2
/-- what is known of the built-in class -/
structure BxF (B : String) (newId initId : String) (tl : List Value) : Prop where
  F : ExcBaseFacts B newId initId tl
  S : StoreFacts B tl "object.__setattr__" "object"
  ty : typeOf (.type B) = pure (.type "type")
  stub : Manifest.isStub B = false
theorem bx_Index : BxF "IndexError" "IndexError.__new__" "IndexError.__init__" [.type "IndexError", .type "LookupError", .type "Exception", .type "BaseException", .type "object"] := ⟨PySem.F.excBase_IndexError, PySem.F.store_IndexError, by kernel_rfl, by decide +kernel⟩
/-- an own class straight over it -/
structure OxB (K : Fr) (C : Addr) (newId : String) (tl : List Value) : Prop where
  cls : ∃ nm q N bs sn sub ab col dd k0 k1 k2 k3 k5, K.lookup C = some (excClassObj nm q C N bs tl true sn sub ab col dd k0 k1 k2 k3 k5 newId)
  sa : PySem.W.findIn K (.ref C) "__setattr__" = some (some (.builtin "object.__setattr__"))
  exC : PySem.W.subIn K (.ref C) (.type "BaseException") = some true
  tyC : PySem.W.typeIn K (.ref C) = some (.type "type")
  kC : PySem.W.keepIn K (.ref C) = true
  ov : PySem.W.excOver K C tl = true
  hd : PySem.W.hasDictIn K C = true
section
open PySem.W PySem.HandSPX Builtin Builtin.ObjectAttr
variable {prog : Program} {w : World} {A : Around} {E : Value → Shared → Prop} {R : Result → Shared → Prop} {hp : Heap} {g : Array GenState} {d : Drawn} {t : Nat} {os : OsState}
theorem osaB {K : Frag} {B : String} {tl : List Value} {name : Str} {tk : Tok} {v : Value} {x C : Addr} {fv : Array Value} (SF : StoreFacts B tl "object.__setattr__" "object")
    (X : K.In hp) (hx : hp.get? x = some { cls := .ref C, data := .fields fv }) (ho : excOver K C tl = true) (hh : hasDictIn K C = true) (ht : takerIn K C name = some none)
    (hq : ∀ h' tk' dx, (∀ b o, b ≠ x → hp.get? b = some o → h'.get? b = some o) → hp.objs.size ≤ dx → dx ≠ x → h'.get? x = some { cls := .ref C, dict := some dx, data := .fields fv } →
      h'.Ns1 dx (fun y => if y = name then some v else none) → R (.ok (.ret .none)) ⟨h', g, d, tk', os⟩) :
    codeAny (model prog w) A (.call (.builtin "object.__setattr__") ⟨[.ref x, .str name tk, v], []⟩) R ⟨hp, g, d, t, os⟩ := by
  refine osa_openX (s := ⟨hp, g, d, t, os⟩) (od := none) SF X ⟨hx, rfl, rfl, trivial⟩ ho ht fun b => ?_
  obtain ⟨cd, hc, hd'⟩ := any_some hh
  have hcls : Looks (model prog w) hp (classData C) cd := looks_clsIn X hc
  have hxs : x ≠ hp.objs.size := Nat.ne_of_lt (Heap.lt_size hx)
  show wpAny _ _ (storeInOwnDict (.ref x) (.ref C) (.str name tk) name v b) _ _ _
  obtain ⟨nm, bs, mro, ns, qn, hd, sn, sb, ab, col, del⟩ := cd
  dsimp only at hd'
  subst hd'
  unfold storeInOwnDict ownDictForStores
  repeat (first | with_reducible refine store_in_new ?_ ?_ | with_reducible refine wpAny_loadPart_at hx ?_ | with_reducible refine hcls.at ?_ | wp_step)
  · exact ⟨_, #[], _, (Heap.get?_update_ne _ _ _ _ hxs.symm).trans (Heap.get?_push_at rfl rfl), rfl, fun e he => absurd he (by simp), fun _ => rfl⟩
  · intro h' tk' hn' hs
    have hx1 : (hp.push { cls := .type "dict", data := .dict #[] }).get? x = some { cls := .ref C, data := .fields fv } := Heap.get?_push_of_some _ hx
    refine hq h' tk' hp.objs.size (fun b o hb ho => ?_) (Nat.le_refl _) hxs.symm ?_ hn'
    · exact (hs.2 b (Nat.ne_of_lt (Heap.lt_size ho))).trans ((Heap.get?_update_ne _ _ _ _ hb).trans (Heap.get?_push_of_some _ ho))
    · exact (hs.2 x hxs).trans (Heap.get?_update_self _ hx1 rfl)
end
section
variable {X : Cx} {pins : List (Addr × Obj)} {σ : L2.St} {H : Hp} {s : Shared} {a C : Addr} {f : Str} {y : V} {u : Value} {E : Value → Shared → Prop} {A : Around} {B newId initId : String} {tl : List Value}
/-- self.f = y, the first field -/
theorem ostB {Q : Unit → Shared → Prop} (b : BxF B newId initId tl) (T : OxB X.K C newId tl) (I : L2.Inv X pins σ H s) (e : H a = some (exo a C none)) (hno : PySem.W.takerIn X.K C f = some none) (ry : RelV y u)
    (h : ∀ dx s', H dx = none → dx ≠ a → L2.Inv X pins σ (upd (upd H dx (exd dx [(f, y)])) a (exo a C (some dx))) s' → Q () s') : wpAny (model X.prog X.w) A (setAttr (.ref a) f u) Q E s := by
  obtain ⟨t1, ho⟩ := exo_at I.hok e
  obtain ⟨hp, g, d, t, os⟩ := s
  refine PySem.W.set_plain I.kIn (ox := { cls := .ref C, dict := none, data := .fields #[.ref t1, .none, .none, .none, .bool false, .none] }) (od := none) ⟨ho, rfl, rfl, trivial⟩ T.sa ?_
  refine osaB b.S I.kIn ho T.ov T.hd hno fun h' tk' dx k dn dne hx hn => ?_
  have hnd : H dx = none := I.hok.fresh dn
  have old : ∀ {b : Addr} {o : Obj}, hp.get? b = some o → b ≠ dx := fun {b o} q => Nat.ne_of_lt (Nat.lt_of_lt_of_le (Heap.lt_size q) dn)
  have na : ∀ {b : Addr}, H b = none → b ≠ a := fun {b} n z => by rw [z, e] at n; cases n
  have stay : ∀ {b : Addr} {u : HO}, H b = some u → u ≠ exo a C none → upd (upd H dx (exd dx [(f, y)])) a (exo a C (some dx)) b = some u := fun {b u} q ne => by
    have : b ≠ a := fun z => ne (by rw [z, e] at q; exact (Option.some.inj q).symm)
    rw [upd_ne this, upd_ne (ne_of_none q hnd)]; exact q
  refine h dx _ hnd dne (I.un (t' := tk') ⟨fun b o q n _ _ => k b o (na n) q, fun b o q n _ _ => ⟨o.slots, k b o (na n) q⟩, fun b o q n _ => by rw [upd_ne (na n), upd_ne (old q)]; exact n, fun b o q _ => ?_,
    fun b xs q => stay q (fun z => exo_tup z.symm), fun b o v q => stay q (fun z => exo_frz z.symm), fun b ps q => ⟨#[], by rw [stay q (fun z => exo_tbl z.symm)]; simp⟩⟩ fun b o q => ?_)
  · by_cases hb : b = a
    · exact ⟨_, by rw [hb]; exact hx⟩
    · exact ⟨o, k b o hb q⟩
  · by_cases hb : b = a
    · subst hb
      rw [upd_same] at q; cases q
      exact L2.exo_ok hx
    · rw [upd_ne hb] at q
      by_cases hd : b = dx
      · subst hd
        rw [upd_same] at q; cases q
        exact exd_ok hn (relO_put (fs := []) ry fun g => True.intro)
      · rw [upd_ne hd] at q
        refine (I.hok b o q).stay (fun c v hc z => k c v ?_ z) (fun c hc => stay hc (fun z => exo_own z.symm)) (fun c xs hc => stay hc (fun z => exo_tup z.symm))
        rcases hc with hc | hc
        · rw [hc]; exact hb
        · exact fun z => by rw [z, e] at hc; exact exo_own (Option.some.inj hc)
/-- B.__init__(self, ..): nothing of it is told -/
theorem oinitB {us : List Value} {Q : Value → Shared → Prop} (b : BxF B newId initId tl) (T : OxB X.K C newId tl) (I : L2.Inv X pins σ H s) (e : H a = some (exo a C none)) (hl : us.length ≤ sizeLine) (h : ∀ s', L2.Inv X pins σ H s' → Q .none s') :
    wpAny (model X.prog X.w) A (call (.builtin initId) (.ref a :: us)) Q E s := by
  obtain ⟨nm, q, N, bs, sn, sub, ab, col, dd, k0, k1, k2, k3, k5, hC⟩ := T.cls
  obtain ⟨t1, ho⟩ := exo_at I.hok e
  obtain ⟨hp, g, d, t, os⟩ := s
  refine wpAny_call (PySem.HandSPX.init_base b.F (fun _ => rfl) (I.kIn _ _ hC) ho hl fun h' t2 k hx => ?_)
  have J := I.write (t' := t) (x := a) (e := a) (o := exo a C none) (by rw [e]; exact True.intro) (.inl rfl) k ⟨_, hx⟩ (L2.exo_ok hx)
  have eu : upd H a (exo a C none) = H := by
    funext b
    by_cases hb : b = a
    · rw [hb, upd_same, e]
    · rw [upd_ne hb]
  rw [eu] at J
  exact h _ J
end
/-! ### rules -/
def tVeB (K : Fr) (newId : String) (tl : List Value) (ta : TA) : TE := fun σ H Q => ta σ H fun vs H1 => ∃ (a C : Addr) (ws : List V), vs = .ref a :: ws ∧ ws.length ≤ 1000 ∧ OxB K C newId tl ∧ H1 a = some (exo a C none) ∧ Q .non H1
def tOsB (K : Fr) (newId : String) (tl : List Value) (f : Str) (to te : TE) : TS := fun D σ H => te σ H fun y H1 => to σ H1 fun x H2 => ∃ a C : Addr, x = .ref a ∧ OxB K C newId tl ∧ PySem.W.takerIn K C f = some none ∧ H2 a = some (exo a C none) ∧ ∀ dx, H2 dx = none → dx ≠ a → D.nx σ (upd (upd H2 dx (exd dx [(f, y)])) a (exo a C (some dx)))
section
variable {X : Cx} {o e : Expr} {es : List Expr} {to te : TE} {ta : TA} {f x : Str} {p p' p1 p2 pos : Pos} {B newId initId : String} {tl : List Value}
theorem pe_binit {pl : Sem Bool} (b : BxF B newId initId tl) (hg : Gl X x) (hm : X.mg x = none) (hB : bootBuiltins x = some (.type B)) (hxn : x ≠ "__name__") (vV : PySem.W.findCls X.K (.type B) (.type "type") "__init__" = some (.val (.builtin initId))) (hh : PySem.W.handedIn (.builtin initId) = true) (ha : PA X (e :: es) ta)
    (hc : eval (.Call (.Attribute (.Name x p1) "__init__" p2) (e :: es) [] pos) X.env = (do
      let ov ← eval (.Name x p1) X.env
      standAt p2.atName
      let (f, first) ← holding [ov] (getMethod ov "__init__" pl)
      callWith pos f first (backTo pos (starEach (e :: es) X.env)) (backToKw pos (keywordEach [] X.env))) := by rfl) (hdb : (x == ("__debug__" : Str)) = false := by decide)
    (he : starEach (e :: es) X.env = (false, eval e X.env) :: starEach es X.env := by rfl) (hpl : (backTo pos (starEach es X.env)).any (·.1) = false := by rfl) :
    PE X (.Call (.Attribute (.Name x p1) "__init__" p2) (e :: es) [] pos) (tVeB X.K newId tl ta) := by
  refine ⟨fun pins s σ H Q I h => ?_⟩
  refine PySem.W.methodCall_KW (ld_blt I hg hm hB ?_ hxn hdb) hc
  obtain ⟨m, fr⟩ := I.fr
  refine PySem.W.method_type fr I.ok.mod.kin b.ty b.stub vV hh ?_
  show wpAny _ _ (callWith pos (Value.builtin initId) [] (backTo pos (starEach (e :: es) X.env)) []) _ _ _
  refine PyProof.Rows.callWith_method1 (thn (ha.run pos pins _ σ H _ (I.tok _) h) fun us s1 ⟨vs, H1, I1, r1, a, C, ws, ev, hl, T, ea, q⟩ => ?_) he hpl
  subst ev
  cases r1 with
  | @cons _ u0 _ ur ra rw' =>
    obtain rfl : u0 = Value.ref a := ra
    have hlen : ur.length ≤ sizeLine := by
      rw [← Paired.length rw', sizeLine_eq]
      omega
    exact oinitB b T I1 ea hlen fun s' J => ⟨.non, H1, J, rfl, q⟩
theorem ps_osB (b : BxF B newId initId tl) (ho : PE X o to) (he : PE X e te) (hs : swapsWith e (some (.Attribute o f p')) pos.line X.env = pure false := by rfl) : PS X (.Assign [.Attribute o f p'] e pos) (tOsB X.K newId tl f to te) := by
  refine ⟨fun pins s σ H D I h => ?_⟩
  refine plainObj_wpAny_Assign_Attribute (thn (he.run pins s σ H _ I h) fun v s1 ⟨y, H1, I1, r1, q1⟩ => thn (ho.run pins s1 σ H1 _ I1 q1) fun u s2 ⟨x, H2, I2, r2, a, C, ex, T, hno, ea, q⟩ => ?_) hs
  subst ex
  obtain rfl : u = Value.ref a := r2
  exact ostB b T I2 ea hno r1 fun dx s' n ne J => ⟨σ, _, J, q dx n ne⟩
theorem pmk_B {CX : CXT} {C fI : Addr} {k : Nat} {fd : FuncData} {ps : List Str} {sp : Sp} (b : BxF B newId initId tl) (T : OxB X.K C newId tl) (iC : PySem.W.findIn X.K (.ref C) "__init__" = some (some (.ref fI))) (tI : PySem.W.typeIn X.K (.ref fI) = some (.type "function"))
    (F1 : FnOk X.prog X.w X.K X.mg X.base CX k fI fd ps sp) (hr : Room (k + 1) X.A) (hb : Binds X.K fd ps []) (hx : Passes CX X (fun _ _ _ => False)) (hg : Gl X x) (hm : X.mg x = some (.ref C)) (ha : PA X (e :: es) ta)
    (hdb : (x == ("__debug__" : Str)) = false := by decide) (he : starEach (e :: es) X.env = (false, eval e X.env) :: starEach es X.env := by rfl) (hpl : (backTo pos (starEach es X.env)).any (·.1) = false := by rfl) :
    PMk X (.Call (.Name x p) (e :: es) [] pos) (tMkO C sp [] ta) := by
  intro pins s σ H Q I h
  obtain ⟨nm, q, N, bs, sn, sub, ab, col, dd, k0, k1, k2, k3, k5, hC⟩ := T.cls
  refine wpAny_Call_Name_kw (ld_glob I hg hm ?_ hdb)
  refine PySem.W.callWith_K (h₀ := X.base) I.ok.mod.kin T.kC (thn (ha.run pos pins s σ H _ I h) fun us s1 ⟨vs, H1, I1, r1, hz, q1⟩ => ⟨I1.kIn, ?_⟩) he hpl
  show wpAny _ _ (call (.ref C) us) _ _ _
  obtain ⟨hp, g, dr, tk, os⟩ := s1
  have hsz : hp.objs.size ≤ hp.objs.size + 1 := Nat.le_succ _
  have hq := q1 (hp.objs.size + 1) (I1.hok.fresh hsz)
  rw [List.append_nil] at hq
  have kk : ∀ b o, hp.get? b = some o → ((hp.push (PySem.W.kdv_tup us)).push (PySem.HandSPX.excO C hp.objs.size)).get? b = some o := fun b o e => Heap.get?_push_of_some _ (Heap.get?_push_of_some _ e)
  have hget : ((hp.push (PySem.W.kdv_tup us)).push (PySem.HandSPX.excO C hp.objs.size)).get? (hp.objs.size + 1) = some (PySem.HandSPX.excO C hp.objs.size) := by heap_get
  have I2 : L2.Inv X pins σ (upd H1 (hp.objs.size + 1) (exo (hp.objs.size + 1) C none)) ⟨(hp.push (PySem.W.kdv_tup us)).push (PySem.HandSPX.excO C hp.objs.size), g, dr, tk, os⟩ :=
    I1.laid (t' := tk) (a := hp.objs.size + 1) (o := exo (hp.objs.size + 1) C none) (h' := (hp.push (PySem.W.kdv_tup us)).push (PySem.HandSPX.excO C hp.objs.size)) kk hsz (L2.exo_ok hget)
  have r2 : Vals (V.ref (hp.objs.size + 1) :: vs) (Value.ref (hp.objs.size + 1) :: us) := .cons rfl r1
  have hl : (Value.ref (hp.objs.size + 1) :: us ++ []).length = ps.length := by
    have e := r2.length
    rw [F1.len _ _ _ _ hq] at e
    rw [List.append_nil]; exact e.symm
  have hus : us.length ≤ sizeLine := by
    rw [← Paired.length r1, sizeLine_eq]
    omega
  have hb2 := hb _ (Value.ref (hp.objs.size + 1) :: us) I2.kIn hl
  rw [List.append_nil] at hb2
  refine wpAny_call (PySem.HandSPX.call_own b.F (fun _ => rfl) (I1.kIn _ _ hC) (PySem.W.looks_findIn I1.kIn iC) (fun self => PySem.W.bind_fn I1.kIn self tI) hus
    (codeAny_mono (F1.run _ X.stack _ _ ⟨Value.ref (hp.objs.size + 1) :: us, []⟩ (Value.ref (hp.objs.size + 1) :: us) _ _ (fun _ _ _ => False) (hr.make C us []) (I2.env0.make C us []) hb2 r2 hq) fun r s' hq' => ?_))
  cases r with
  | error er => exact hx pins σ _ _ er s' I2 hq'
  | ok fl =>
    cases fl with
    | ret u =>
      obtain ⟨v, H2, os2, bare2, un2, hok2, rv, ev, d, fs, ea, ed, hd1, q2⟩ := hq'
      subst ev
      obtain ⟨h2, g2, d2, t2, os'⟩ := s'
      exact ⟨rv, mk_end (raises_own T.exC T.tyC) I1 hsz kk un2 hok2 os2 bare2 ea ed hd1 q2⟩
    | next => exact False.elim hq'
    | brk => exact False.elim hq'
    | cont => exact False.elim hq'
end
theorem ok_initB {P : Program} {w : World} {K : Fr} {mg : Str → Option Value} {base : Heap} {CX : CXT} {qual x fld par txt : Str} {pa : Arguments} {sc : Scope} {f C : Addr} {fd : FuncData} {j : Nat} {p1 p2 p3 p4 p5 p6 p7 p8 p9 p10 : Pos} {dvs : List V} {kws : List (Str × V)} {pl : Env → Sem Bool} {B newId initId : String} {tl : List Value} (b : BxF B newId initId tl)
    (F : FunD K "__init__" qual pa [.Expr (.Call (.Attribute (.Name x p1) "__init__" p2) [.Name "self" p3, .Constant (.str txt) j p4] [] p5) p6, .Assign [.Attribute (.Name "self" p7) fld p8] (.Name par p9) p10] sc dvs kws f fd)
    (S : FnScope ["self", par] ["self", par] sc) (hs : Vis sc "self") (hp : Vis sc par) (hb : sc.names.lookup x = some .globalImplicit) (hm : mg x = none) (hB : bootBuiltins x = some (.type B)) (hxn : x ≠ "__name__") (vV : PySem.W.findCls K (.type B) (.type "type") "__init__" = some (.val (.builtin initId))) (hh : PySem.W.handedIn (.builtin initId) = true) (T : OxB K C newId tl) (hno : PySem.W.takerIn K C fld = some none)
    (hc : ∀ env : Env, eval (.Call (.Attribute (.Name x p1) "__init__" p2) [.Name "self" p3, .Constant (.str txt) j p4] [] p5) env = (do
      let ov ← eval (.Name x p1) env
      standAt p2.atName
      let (f, first) ← holding [ov] (getMethod ov "__init__" (pl env))
      callWith p5 f first (backTo p5 (starEach [.Name "self" p3, .Constant (.str txt) j p4] env)) (backToKw p5 (keywordEach [] env))) := by intro _; rfl)
    (hd : (x == ("__debug__" : Str)) = false := by decide) (hdp : (par == ("__debug__" : Str)) = false := by decide) (hcp : (par == ("__classdict__" : Str)) = false := by decide) : FnOk P w K mg base CX 1 f fd ["self", par] (spI C fld) := by
  refine F.ok S (fun vs H Q E h => ?_) fun cdv A outer s H vs Q E hr h => ?_
  · obtain ⟨a, v, rfl, _⟩ := h; rfl
  · obtain ⟨a, v, rfl, ha, q⟩ := h
    refine ⟨_, pss_cons (ps_expr (pe_binit b ?g hm hB hxn vV hh (pa_cons (pe_var (i := 0) rfl hs) (pa_cons pe_str pa_nil)) (hc _) hd)) (pss_one (ps_osB b (pe_var (i := 0) rfl hs) (pe_var (i := 1) rfl hp hdp hcp) rfl)), ?r⟩
    case g => exact hb
    case r =>
      refine ⟨_, rfl, ⟨a, C, [.str txt], rfl, by simp, T, ha, ⟨_, rfl, ⟨_, rfl, a, C, rfl, T, hno, ha, fun dx h1 h2 => q dx h1 h2⟩⟩⟩⟩
/-- such a class, to be raised -/
structure GotB (P : Program) (w : World) (K : Fr) (mg : Str → Option Value) (base : Heap) (k : Nat) (c fld : Str) : Prop where
  ex : ∃ (B newId initId : String) (tl : List Value) (C fI : Addr) (fd : FuncData) (ps : List Str), BxF B newId initId tl ∧ mg c = some (.ref C) ∧ OxB K C newId tl ∧ PySem.W.findIn K (.ref C) "__init__" = some (some (.ref fI)) ∧ PySem.W.typeIn K (.ref fI) = some (.type "function") ∧ FnOk P w K mg base CX0 k fI fd ps (spI C fld) ∧ Binds K fd ps []
section
variable {X : Cx} {Tb : TbT} {e : Expr} {x fld : Str} {p pos pos' : Pos} {k j : Nat} {wh : Wh} {f : Df}
theorem dS_raiseGB (hc : X.calm = true) (tk : Takes X wh.W) (G : GotB X.prog X.w X.K X.mg X.base k x fld) (hr : Room j X.A) (hg : Gl X x) (he : PE X e (tD (X.kg Tb) f)) (hj : k + 1 ≤ j := by decide) (hdb : (x == ("__debug__" : Str)) = false := by decide) (hse : starEach [e] X.env = (false, eval e X.env) :: starEach [] X.env := by rfl) :
    PS X (.Raise (some (.Call (.Name x p) [e] [] pos)) none pos') (tS (X.kg Tb) wh (sRaise x fld f)) := by
  obtain ⟨B, newId, initId, tl, C, fI, fd, ps, b, hm, T, iC, tI, F1, hb⟩ := G.ex
  refine PSi (ps_raise hc tk (pmk_B b T iC tI F1 (hr.mono hj) hb pass0 hg hm (pa_cons he pa_nil hse) hdb hse rfl)) fun E σ H ⟨B, F, env, r, S, ef, kk⟩ => ?_
  obtain ⟨⟨d, e1⟩, q, ef⟩ := bd ef
  cases ef
  refine ⟨B, F, env, d, e1, S, q, fun v F1 H1 S1 s1 hd => ?_⟩
  refine ⟨by simp, fun a ha => ⟨a, v, rfl, upd_same, fun dx hdx hne => ⟨rfl, dx, [(fld, v)], upd_same, by rw [upd_ne hne]; exact upd_same, ?_, ?_⟩⟩⟩
  · rw [upd_ne hne] at hdx; exact hdx
  · have h1 : H1 dx = none := by rw [upd_ne hne] at hdx; exact hdx
    rw [raised_heap ha hne]
    exact kk (.ref C) (some dx) σ F1 _ (S1.laid h1) s1 ⟨⟨C, hm, rfl⟩, dx, v, rfl, S1.fresh h1, S1.neX h1, S1.fh.none h1, upd_same, hd⟩
end
/-! ### what is asked of the head -/
def oxBB (K : Fr) (C : Addr) (newId : String) (tl : List Value) (fld : Str) : Bool := (match K.lookup C with
  | some ⟨.type "type", _, .cls cd, sl⟩ => (match cd.mro, sl.toList with
    | .ref C' :: bm, [_, _, _, _, some (.builtin n), _] => C' == C && (n == newId && (!cd.hasDel && (cd.hasDict && bm == tl)))
    | _, _ => false)
  | _ => false) && (decide (PySem.W.findIn K (.ref C) "__setattr__" = some (some (.builtin "object.__setattr__"))) && (decide (PySem.W.subIn K (.ref C) (.type "BaseException") = some true) && (decide (PySem.W.typeIn K (.ref C) = some (.type "type")) && (PySem.W.keepIn K (.ref C) && (PySem.W.excOver K C tl && (PySem.W.hasDictIn K C && decide (PySem.W.takerIn K C fld = some none)))))))
theorem oxBB_ok {K : Fr} {C : Addr} {newId : String} {tl : List Value} {fld : Str} (h : oxBB K C newId tl fld = true) : OxB K C newId tl ∧ PySem.W.takerIn K C fld = some none := by
  unfold oxBB at h
  obtain ⟨h0, h⟩ := He.ba h
  obtain ⟨h1, h⟩ := He.ba h
  obtain ⟨h2, h⟩ := He.ba h
  obtain ⟨h3, h⟩ := He.ba h
  obtain ⟨h4, h⟩ := He.ba h
  obtain ⟨h5, h⟩ := He.ba h
  obtain ⟨h6, h7⟩ := He.ba h
  refine ⟨⟨?_, of_decide_eq_true h1, of_decide_eq_true h2, of_decide_eq_true h3, h4, h5, h6⟩, of_decide_eq_true h7⟩
  split at h0
  · rename_i dd cd sl ho
    split at h0
    · rename_i C' bm k0 k1 k2 k3 n k5 hm hs
      simp only [Bool.and_eq_true, beq_iff_eq, Bool.not_eq_true'] at h0
      obtain ⟨rfl, rfl, g1, g2, g3⟩ := h0
      obtain ⟨nm, bs, mro, ns, qn, hd, sn, sub, ab, col, del⟩ := cd
      dsimp only at hm g1 g2
      subst hm g1 g2 g3
      obtain ⟨l⟩ := sl
      simp only at hs
      subst hs
      exact ⟨nm, qn, ns, bs, sn, sub, ab, col, dd, k0, k1, k2, k3, k5, ho⟩
    · cases h0
  · cases h0
/-- B.__init__, as the text sees it -/
def binB (K : Fr) (B initId : String) : Bool := match PySem.W.findCls K (.type B) (.type "type") "__init__" with
  | some (.val (.builtin n)) => n == initId && PySem.W.handedIn (.builtin initId)
  | _ => false
theorem binB_ok {K : Fr} {B initId : String} (h : binB K B initId = true) : PySem.W.findCls K (.type B) (.type "type") "__init__" = some (.val (.builtin initId)) ∧ PySem.W.handedIn (.builtin initId) = true := by
  unfold binB at h
  split at h
  · rename_i n e
    obtain ⟨h1, h2⟩ := He.ba h
    rw [e, beq_iff_eq.mp h1]
    exact ⟨rfl, h2⟩
  · cases h
abbrev tlIndex : List Value := [.type "IndexError", .type "LookupError", .type "Exception", .type "BaseException", .type "object"]
end DL

/-! DOe: a def that may raise, or tells something new. -/
namespace DL
open PySem L2
def gOfXN (n : Nat) (fl : List Bool) (body : Sf) (ds : List D) : Option ((D ⊕ Ex) × List D) := if ds.length = fl.length then (body (env0 n fl ds)).bind fun r => match r with
  | .rn d e => (outsAt (slotsOf 0 fl) e).bind fun os => some (.inl d, os)
  | .xx x e => (outsAt (slotsOf 0 fl) e).bind fun os => some (.inr x, os)
  | _ => none else none
theorem bodyXN_of {K : Fg} {N : List Str} {fl : List Bool} {body : Sf} {vs : List V} {H : Hp} {Q : VK} {E : XK} (h : spX K fl .nw (gOfXN N.length fl body) vs H Q E) : tS K ⟨fun cls dd _ H' => E cls dd H'⟩ body { nx := fun _ H' => Q .non H', rt := Q } (L2.start N vs) H := by
  obtain ⟨F, ds, d, os, M, fh, nm, kt, ha, ap, hg, k⟩ := h
  unfold gOfXN at hg
  rw [if_pos ha.len.2] at hg
  obtain ⟨r, hr, hg⟩ := bd hg
  refine ⟨⟨F, H, M, [], [], K.tb⟩, F, env0 N.length fl ds, r, sl_entry ha fh nm kt ap, hr, ?_⟩
  have nf : ∀ {σ' : L2.St} {F' H' : Hp} {e : En}, Sl K ⟨F, H, M, [], [], K.tb⟩ F' H' σ' e → ∀ p, F p = none → er F' p ≠ none → H p = none ∧ ∀ ob u, er F' p = some u → H' p ≠ some (.frz ob u) := fun {_ F' _ _} S p a b => by
    have b' : F' p ≠ none := fun z => b (er_none z)
    refine ⟨S.nw p a b', fun ob u e h => ?_⟩
    rcases S.lk p ob u (er_some e) h with z | ⟨z, _⟩
    · cases z
    · have n0 := S.nw p a b'
      dsimp only at z n0
      rw [n0] at z; cases z
  have out : ∀ {σ' : L2.St} {F' H' : Hp} {e : En}, Sl K ⟨F, H, M, [], [], K.tb⟩ F' H' σ' e → outsAt (slotsOf 0 fl) e = some os → OutsOk K (er F') H' M os := fun S q => by
    rw [← ha.slots] at q
    exact (outs_ok S (fun _ z => z) q).mono (er_sub _) fun _ _ z => er_none z
  cases r with
  | rn d' e =>
    obtain ⟨os', q, hg⟩ := bd hg
    cases hg
    exact fun p σ' F' H' S s n n0 ho => (k (er F') H' (er_lk S.fh) (er_no _) S.kpE (s.trans (er_sub _)) (nf S) (fun p o a b c => S.kp p o a b (fun _ z => nomatch z) c) (out S q)).1 _ _ rfl ⟨p, rfl, er_none n, n0, ho.mono (er_sub _) fun _ z => z⟩
  | xx x e =>
    obtain ⟨os', q, hg⟩ := bd hg
    cases hg
    exact fun cls dd σ' F' H' S s hx => (k (er F') H' (er_lk S.fh) (er_no _) S.kpE (s.trans (er_sub _)) (nf S) (fun p o a b c => S.kp p o a b (fun _ z => nomatch z) c) (out S q)).2 _ _ _ rfl (hx.mono (er_sub _) fun a z1 z2 _ => ⟨z1, (fun _ z => nomatch z), er_none z2⟩)
  | nx e => cases hg
  | rt d' e => cases hg
  | rm s0 d' e => cases hg
  | bk e => cases hg
  | ct e => cases hg
theorem args_inH {K : Fg} {F H : Hp} {n : Nat} {fl : List Bool} {vs : List V} {ds : List D} {M : List (Nat × Addr)} (h : ArgsOk K F H n fl vs ds M) : ∀ q ∈ M, H q.2 ≠ none := by
  induction h with
  | nil => exact fun _ z => nomatch z
  | fz _ _ ih => exact ih
  | ow _ o _ ih =>
    intro q hq
    rcases List.mem_cons.mp hq with rfl | hq
    · obtain ⟨u, e, _⟩ := o.some
      rw [e]; exact fun z => nomatch z
    · exact ih q hq
/-- what is new may be taken as one of the others -/
theorem spX_nw {K : Fg} {fl : List Bool} {g : List D → Option ((D ⊕ Ex) × List D)} {vs : List V} {H : Hp} {Q : VK} {E : XK} (h : spX K fl .fz g vs H Q E) : spX K fl .nw g vs H Q E := by
  obtain ⟨F, ds, r, os, M, fh, nm, kt, ha, ap, hg, k⟩ := h
  refine ⟨F, ds, r, os, M, fh, nm, kt, ha, ap, hg, fun F' H' fh' nm' kt' s nw kp ok => ⟨fun d v e hd => ?_, fun x cls dd e hx => (k F' H' fh' nm' kt' s nw kp ok).2 x cls dd e hx⟩⟩
  obtain ⟨p, rfl, n, n0, ho⟩ := hd
  obtain ⟨o, ho', hb⟩ := ho.some
  have s2 : Sub F' (upd F' p o) := Sub.new n
  have ne : ∀ {a : Addr}, H a ≠ none → a ≠ p := fun {a} q z => q (z ▸ n0)
  refine (k (upd F' p o) H' (fun a u h => ?_) (fun a m h => ?_) ⟨fun a ks h => ?_, kt'.tb, fun q z => ?_⟩ (s.trans s2) (fun a h1 h2 => ?_) kp (ok.mono s2 fun q hq z => by rw [upd_ne (ne (args_inH ha q hq))]; exact z)).1 d _ e (ho.froze ho' n)
  · by_cases z : a = p
    · subst z; rw [upd_same] at h; cases h; exact .inl ho'
    · rw [upd_ne z] at h; exact fh' a u h
  · by_cases z : a = p
    · subst z; rw [upd_same] at h; cases h; cases hb
    · rw [upd_ne z] at h; exact nm' a m h
  · have q := kt'.kt a ks h
    rw [upd_ne (ne_of_none q n)]; exact q
  · obtain ⟨t, e2⟩ := tabs_at kt.tb z
    rw [upd_ne (ne (by rw [e2]; exact fun y => nomatch y))]
    exact kt'.nf q z
  · by_cases z : a = p
    · subst z
      refine ⟨n0, fun ob u h3 h4 => ?_⟩
      rw [upd_same] at h3; cases h3
      rw [ho'] at h4
      exact frz_ne (Option.some.inj h4)
    · rw [upd_ne z] at h2 ⊢
      exact nw a h1 h2
section
variable {X : Cx} {Tb : TbT} {x : Str} {p pos p3 : Pos} {e : Expr} {es : List Expr} {ps : List Str} {k j : Nat} {fl : List Bool} {g : List D → Option ((D ⊕ Ex) × List D)} {os : List Opd} {wh : Wh}
theorem callXN_le {K : Fg} {wh : Wh} {fl : List Bool} {g : List D → Option ((D ⊕ Ex) × List D)} {os : List Opd} : ∀ σ H Q, tX K wh (eCallX fl g os) σ H Q → tCallS (spX K fl .nw g) (WE wh.W) (tAr K os) σ H Q := fun σ H Q h => by
  obtain ⟨B, F, env, us, e1, S, q1, k⟩ := callX_le σ H Q h
  exact ⟨B, F, env, us, e1, S, q1, fun vs F1 H1 S1 s1 h1 => spX_nw (k vs F1 H1 S1 s1 h1)⟩
theorem de_callXGN (tk : Takes X wh.W) (G : GotX X.prog X.w X.K X.mg X.base k x ps (spX (X.kg Tb) fl .nw g)) (hr : Room j X.A) (hg : Gl X x) (ha : PA X (e :: es) (tAr (X.kg Tb) os)) (hj : k ≤ j := by decide) (hdb : (x == ("__debug__" : Str)) = false := by decide) (he : starEach (e :: es) X.env = (false, eval e X.env) :: starEach es X.env := by rfl) (hpl : (backTo pos (starEach es X.env)).any (·.1) = false := by rfl) :
    PE X (.Call (.Name x p) (e :: es) [] pos) (tX (X.kg Tb) wh (eCallX fl g os)) := by
  obtain ⟨f, fd, F, m, kp, b⟩ := G.ex
  exact PEi (pe_callS F (hr.mono hj) hg m kp b (passAt tk) ha hdb he hpl) callXN_le
theorem de_callTGN (G : GotX X.prog X.w X.K X.mg X.base k x ps (spX (X.kg Tb) fl .nw g)) (hr : Room j X.A) (hg : Gl X x) (ha : PA X (e :: es) (tAr (X.kg Tb) os)) (hj : k ≤ j := by decide) (hdb : (x == ("__debug__" : Str)) = false := by decide) (he : starEach (e :: es) X.env = (false, eval e X.env) :: starEach es X.env := by rfl) (hpl : (backTo pos (starEach es X.env)).any (·.1) = false := by rfl) :
    PE X (.Call (.Name x p) (e :: es) [] pos) (tN (X.kg Tb) (eCall fl (told g) os)) := by
  obtain ⟨f, fd, F, m, kp, b⟩ := G.ex
  exact PEi (pe_call (E := E0) F (hr.mono hj) hg m kp b .nil passF ha hdb he hpl) fun σ H Q h => call_told σ H Q (callN_le σ H Q h)
end
/-! ### for k in d, the keys tuples -/
def iKT (f : Df) : If := fun env => (f env).bind fun r => match r.1 with
  | .dict ((.bool true, .none) :: es) => some (es.map (·.1), r.2)
  | _ => none
theorem keysA_dt {K : Fg} {F : Hp} : ∀ ks : List Key, DtA K F (ks.map kV) (ks.map kD)
  | [] => .nil
  | k :: ks => .cons (kD_dt k) (keysA_dt ks)
theorem DtT.nth {K : Fg} {F : Hp} : ∀ {kvs : List (List Key × V)} {es : List (D × D)} {i : Nat} {x : D × D}, DtT K F kvs es → es[i]? = some x → ∃ k v, kvs[i]? = some (k, v) ∧ x.1 = .tuple (k.map kD)
  | _, _, _, _, .nil, e => by simp at e
  | _, _, 0, _, .cons h _, e => by simp at e; subst e; exact ⟨_, _, rfl, rfl⟩
  | _, _, i + 1, x, .cons _ t, e => by
    obtain ⟨k, v, h1, h2⟩ := DtT.nth (i := i) (x := x) t (by simpa using e)
    exact ⟨k, v, by simpa using h1, h2⟩
theorem dtt_len {K : Fg} {F : Hp} : ∀ {kvs : List (List Key × V)} {es : List (D × D)}, DtT K F kvs es → kvs.length = es.length
  | _, _, .nil => rfl
  | _, _, .cons _ t => by rw [List.length_cons, List.length_cons, dtt_len t]
theorem walks_keysT {K : Fg} {B : Bs} {F : Hp} {d : Addr} {od : Obj} {kvs : List (List Key × V)} {es : List (D × D)} (h : Stays B d od (.dT kvs)) (t : DtT K F kvs es) : WalksB K B (Itkt d od kvs) F (es.map (·.1)) := fun {X F' H σ env} S s i => by
  have hd := h.at S
  refine ⟨fun x e => ?_, fun hl => ⟨hd, by rw [dtt_len t]; rw [List.length_map] at hl; exact Nat.le_of_eq hl⟩⟩
  rw [List.getElem?_map] at e
  cases q : es[i]? with
  | none => rw [q] at e; cases e
  | some y =>
    rw [q] at e; cases e
    obtain ⟨k, v, h1, h2⟩ := t.nth q
    refine ⟨⟨hd, (List.getElem?_eq_some_iff.mp h1).1⟩, fun x H' y' => ?_⟩
    obtain ⟨rfl, k', v', a, h3, rfl, h4⟩ := y'
    rw [h1] at h3; cases h3
    exact ⟨F', S, Sub.refl _, by dsimp only; rw [h2]; exact .tup (S.kt a k h4) (keysA_dt k)⟩
theorem di_keysT {X : Cx} {Tb : TbT} {tg e : Expr} {f : Df} (he : PE X e (tD (X.kg Tb) f)) : PI X tg e (iDL X Tb (iKT f)) := PIi (pi_keysG he) fun σ H R ⟨B, F, env, ds, env', S, ef, k⟩ => by
  obtain ⟨⟨d, e1⟩, q, ef⟩ := bd ef
  refine ⟨B, F, env, d, e1, S, q, fun v F' H' S' s' hd => ?_⟩
  dsimp only at ef
  split at ef
  · rename_i es
    cases ef
    cases hd with
    | @dk a kvs _ hf t =>
      obtain ⟨k, z⟩ := t.key _ List.mem_cons_self
      cases k <;> cases z
    | @dt a kvs _ hf t =>
      refine ⟨a, rfl, .inr ⟨kvs, ?_⟩⟩
      rcases S'.fh _ _ hf with g | ⟨_, ob, g⟩ | ⟨z, _⟩
      · exact .inr ⟨g, fun o n => k _ F' _ _ (S'.lock hf g trivial o) s' (S'.opn hf g trivial o n) (walks_keysT (.inl List.mem_cons_self) t)⟩
      · exact .inl ⟨ob, g, k _ F' _ B S' s' (.inl rfl) (walks_keysT (S'.lk _ _ _ hf g) t)⟩
      · cases z
  · cases ef
end DL

namespace K02
open PySem L2 DL
def top (i : Nat) : Stmt := PySem.Challenge.pw_linkheralds_k02_neighbours_and_prices.main.body.getD i (.Pass ⟨0, 0, 0, 0⟩)
structure Zs (K : PySem.W.Frag) (mg : Str → Option Value) : Prop where
  z_IndexError : mg "IndexError" = none
  z_bool : mg "bool" = none
  z_enumerate : mg "enumerate" = none
  z_int : mg "int" = none
  z_isinstance : mg "isinstance" = none
  z_len : mg "len" = none
  z_list : mg "list" = none
  z_max : mg "max" = none
  z_min : mg "min" = none
  z_range : mg "range" = none
  z_repr : mg "repr" = none
  z_sorted : mg "sorted" = none
  z_tuple : mg "tuple" = none
  c_MOST_HOUSES : ∃ t : Tok, mg "MOST_HOUSES" = some (.int 8 t)
  c_MOST_PRICE : ∃ t : Tok, mg "MOST_PRICE" = some (.int 99 t)
  c_MOST_TIES : ∃ t : Tok, mg "MOST_TIES" = some (.int 20 t)
  m_HeraldError : mg "HeraldError" = some (.ref (He.ga K "HeraldError"))
  m_NoHouse : mg "NoHouse" = some (.ref (He.ga K "NoHouse"))
  m_NoWeb : mg "NoWeb" = some (.ref (He.ga K "NoWeb"))
  x_NoHouse_NoHouse : PySem.W.exmOne K (.ref (He.ga K "NoHouse")) (.ref (He.ga K "NoHouse")) = some true
  x_NoHouse_NoWeb : PySem.W.exmOne K (.ref (He.ga K "NoHouse")) (.ref (He.ga K "NoWeb")) = some false
  x_NoWeb_NoHouse : PySem.W.exmOne K (.ref (He.ga K "NoWeb")) (.ref (He.ga K "NoHouse")) = some false
  x_NoWeb_NoWeb : PySem.W.exmOne K (.ref (He.ga K "NoWeb")) (.ref (He.ga K "NoWeb")) = some true
  e_NoHouse : ExcC K (He.ga K "NoHouse")
  e_NoWeb : ExcC K (He.ga K "NoWeb")
  n_HeraldError : PySem.W.kitOne K (.type "NoneType") (.ref (He.ga K "HeraldError")) = some false
  k_NoHouse_HeraldError : PySem.W.kitOne K (.ref (He.ga K "NoHouse")) (.ref (He.ga K "HeraldError")) = some false
  k_NoWeb_HeraldError : PySem.W.kitOne K (.ref (He.ga K "NoWeb")) (.ref (He.ga K "HeraldError")) = some true
  bn_IndexError : PySem.W.kitOne K (.type "NoneType") (.type "IndexError") = some false
  b_NoHouse_IndexError : PySem.W.kitOne K (.ref (He.ga K "NoHouse")) (.type "IndexError") = some true
  b_NoWeb_IndexError : PySem.W.kitOne K (.ref (He.ga K "NoWeb")) (.type "IndexError") = some false
  f_NoHouse_house : XfC K (He.ga K "NoHouse") ∧ PySem.W.findIn K (.ref (He.ga K "NoHouse")) "house" = some none
  f_NoWeb_number : XfC K (He.ga K "NoWeb") ∧ PySem.W.findIn K (.ref (He.ga K "NoWeb")) "number" = some none
section
variable {P : Program} {w : World} {K : PySem.W.Frag} {mg : Str → Option Value} {base : Heap} {Tb : TbT}
/-! ### is_whole -/
def d_is_whole : Sf := (sRet (eAnd (op1 (gIsi "int") (.vr 0)) (eNot (op1 (gIsi "bool") (.vr 0)))))
def g_is_whole : List D → Option (D × List D) := gOf 1 [false]  d_is_whole
theorem sc_is_whole : FnScope ["thing"] ["thing"] (defScope (top 8)) := ⟨rfl, rfl, rfl, by decide +kernel, rfl, by decide +kernel, by decide +kernel⟩
theorem ok_is_whole {f : Addr} {fd : FuncData} (F : FnP K "is_whole" (top 8) f fd) (Z : Zs K mg)  : FnOk P w K mg base CX0 1 f fd ["thing"] (spD ⟨K, mg, Tb⟩ [false] .fz g_is_whole) := by
  refine okP F sc_is_whole (spD_len rfl) (fun cdv A outer s H vs Q E hr h => ⟨tS ⟨K, mg, Tb⟩ wh0 d_is_whole, ?_, body_of (N := ["thing"]) h⟩)
  exact (ds_one (dS_ret (de_and (de_isi (by decide +kernel) rfl Z.z_isinstance (do_vr 0) rfl Z.z_int (by decide +kernel)) (de_one (de_not (de_isi (by decide +kernel) rfl Z.z_isinstance (do_vr 0) rfl Z.z_bool (by decide +kernel)))))))
/-! ### is_house -/
def d_is_house : Sf := (sRet (eAnd (eCall [false] g_is_whole [(.ex (eVar 1))]) (eChain gLe gLt (.ex (eC (.int 0))) (.vr 1) (.vr 0))))
def g_is_house : List D → Option (D × List D) := gOf 2 [false, false]  d_is_house
theorem sc_is_house : FnScope ["many", "thing"] ["many", "thing"] (defScope (top 9)) := ⟨rfl, rfl, rfl, by decide +kernel, rfl, by decide +kernel, by decide +kernel⟩
theorem ok_is_house {f : Addr} {fd : FuncData} (F : FnP K "is_house" (top 9) f fd) (Z : Zs K mg) (G_is_whole : Got P w K mg base 1 "is_whole" ["thing"] (spD ⟨K, mg, Tb⟩ [false] .fz g_is_whole)) : FnOk P w K mg base CX0 2 f fd ["many", "thing"] (spD ⟨K, mg, Tb⟩ [false, false] .fz g_is_house) := by
  refine okP F sc_is_house (spD_len rfl) (fun cdv A outer s H vs Q E hr h => ⟨tS ⟨K, mg, Tb⟩ wh0 d_is_house, ?_, body_of (N := ["many", "thing"]) h⟩)
  exact (ds_one (dS_ret (de_and (de_callG G_is_whole hr rfl (da_cons (do_ex (de_var 1)) da_nil)) (de_one (de_chain op_le ok_le op_lt ok_lt (do_ex de_int) (do_vr 1) (do_vr 0))))))
/-! ### is_price -/
def d_is_price : Sf := (sRet (eAnd (eCall [false] g_is_whole [(.ex (eVar 0))]) (eChain gLe gLe (.ex (eC (.int 1))) (.vr 0) (.ex (eC (.int 99))))))
def g_is_price : List D → Option (D × List D) := gOf 1 [false]  d_is_price
theorem sc_is_price : FnScope ["thing"] ["thing"] (defScope (top 10)) := ⟨rfl, rfl, rfl, by decide +kernel, rfl, by decide +kernel, by decide +kernel⟩
theorem ok_is_price {f : Addr} {fd : FuncData} (F : FnP K "is_price" (top 10) f fd) (Z : Zs K mg) (G_is_whole : Got P w K mg base 1 "is_whole" ["thing"] (spD ⟨K, mg, Tb⟩ [false] .fz g_is_whole)) : FnOk P w K mg base CX0 2 f fd ["thing"] (spD ⟨K, mg, Tb⟩ [false] .fz g_is_price) := by
  refine okP F sc_is_price (spD_len rfl) (fun cdv A outer s H vs Q E hr h => ⟨tS ⟨K, mg, Tb⟩ wh0 d_is_price, ?_, body_of (N := ["thing"]) h⟩)
  exact (ds_one (dS_ret (de_and (de_callG G_is_whole hr rfl (da_cons (do_ex (de_var 0)) da_nil)) (de_one (de_chain op_le ok_le op_le ok_le (do_ex de_int) (do_vr 0) (do_ex (de_globInt rfl Z.c_MOST_PRICE.choose_spec)))))))
/-! ### is_tie -/
def d_is_tie : Sf := (sq (sIf (bOr (bNot (bD (op1 (gIsi "tuple") (.vr 1)))) (bD (op2 gNe (.ex (opA gLen [(.vr 1)])) (.ex (eC (.int 4)))))) (sRet (eC (.bool false))) sNx) (sq (sUnp (tgTup (tgsCons (tgName 2) (tgsCons (tgName 3) (tgsCons (tgName 4) (tgsCons (tgName 5) tgsNil))))) (eVar 1)) (sq (sIf (bOr (bNot (bD (eCall [false, false] g_is_house [(.ex (eVar 0)), (.ex (eVar 2))]))) (bOr (bNot (bD (eCall [false, false] g_is_house [(.ex (eVar 0)), (.ex (eVar 3))]))) (bD (op2 gGe (.vr 2) (.vr 3))))) (sRet (eC (.bool false))) sNx) (sRet (eAnd (eCall [false] g_is_price [(.ex (eVar 4))]) (eCall [false] g_is_price [(.ex (eVar 5))]))))))
def g_is_tie : List D → Option (D × List D) := gOf 6 [false, false]  d_is_tie
theorem sc_is_tie : FnScope ["many", "thing", "one", "other", "there", "back"] ["many", "thing"] (defScope (top 11)) := ⟨rfl, rfl, rfl, by decide +kernel, rfl, by decide +kernel, by decide +kernel⟩
theorem ok_is_tie {f : Addr} {fd : FuncData} (F : FnP K "is_tie" (top 11) f fd) (Z : Zs K mg) (G_is_price : Got P w K mg base 2 "is_price" ["thing"] (spD ⟨K, mg, Tb⟩ [false] .fz g_is_price)) (G_is_house : Got P w K mg base 2 "is_house" ["many", "thing"] (spD ⟨K, mg, Tb⟩ [false, false] .fz g_is_house)) : FnOk P w K mg base CX0 3 f fd ["many", "thing"] (spD ⟨K, mg, Tb⟩ [false, false] .fz g_is_tie) := by
  refine okP F sc_is_tie (spD_len rfl) (fun cdv A outer s H vs Q E hr h => ⟨tS ⟨K, mg, Tb⟩ wh0 d_is_tie, ?_, body_of (N := ["many", "thing", "one", "other", "there", "back"]) h⟩)
  exact (ds_cons (dS_if (PW.pt (dw_or (dt_not (dt_val (de_isi (by decide +kernel) rfl Z.z_isinstance (do_vr 1) rfl Z.z_tuple (by decide +kernel)))) (dw_or1 (dt_cmp (op_nes hr.units) ok_ne (do_ex (de_callB call_len1 ok_len rfl Z.z_len (by decide +kernel) (da_cons (do_vr 1) da_nil))) (do_ex de_int) (nomark _))))) (ds_one (dS_ret de_bool)) ds_nil)
      (ds_cons (dS_unp (ts := [2, 3, 4, 5]) (de_var 1) (dg_tup rfl (dgs_cons (dg_name 2 sc_is_tie.nd) (dgs_cons (dg_name 3 sc_is_tie.nd) (dgs_cons (dg_name 4 sc_is_tie.nd) (dgs_cons (dg_name 5 sc_is_tie.nd) dgs_nil)))) (takes_cons (takes_cons (takes_cons (takes_cons takes_nil))))))
      (ds_cons (dS_if (PW.pt (dw_or (dt_not (dt_val (de_callG G_is_house hr rfl (da_cons (do_ex (de_var 0)) (da_cons (do_ex (de_var 2)) da_nil))))) (dw_or (dt_not (dt_val (de_callG G_is_house hr rfl (da_cons (do_ex (de_var 0)) (da_cons (do_ex (de_var 3)) da_nil))))) (dw_or1 (dt_cmp op_ge ok_ge (do_vr 2) (do_vr 3) (nomark _)))))) (ds_one (dS_ret de_bool)) ds_nil)
      (ds_one (dS_ret (de_and (de_callG G_is_price hr rfl (da_cons (do_ex (de_var 4)) da_nil)) (de_one (de_callG G_is_price hr rfl (da_cons (do_ex (de_var 5)) da_nil)))))))))
/-! ### look_at_web -/
def d_look_at_web : Sf := (sq (sIf (bOr (bNot (bD (op1 (gIsi "tuple") (.vr 0)))) (bD (op2 gNe (.ex (opA gLen [(.vr 0)])) (.ex (eC (.int 2)))))) (sRaise "NoWeb" "number" (eC .none)) sNx) (sq (sUnp (tgTup (tgsCons (tgName 1) (tgsCons (tgName 2) tgsNil))) (eVar 0)) (sq (sIf (bOr (bNot (bD (eCall [false] g_is_whole [(.ex (eVar 1))]))) (bOr (bNot (bD (eChain gLe gLe (.ex (eC (.int 1))) (.vr 1) (.ex (eC (.int 8)))))) (bOr (bNot (bD (op1 (gIsi "list") (.vr 2)))) (bD (op2 gGt (.ex (opA gLen [(.vr 2)])) (.ex (eC (.int 20)))))))) (sRaise "NoWeb" "number" (eC .none)) sNx) (sq (sSetN 3 eDictT) (sFor (tgTup (tgsCons (tgName 4) (tgsCons (tgName 5) tgsNil))) (iEnL (eVar 2)) (sq (sIf (bOr (bNot (bD (eCall [false, false] g_is_tie [(.ex (eVar 1)), (.ex (eVar 5))]))) (bD (op2 gIn (.ex (eSlice gCut (.vr 5) pNo (pAt (eC (.int 2))))) (.vr 3)))) (sRaise "NoWeb" "number" (eVar 4)) sNx) (sPutD 3 (eC (.bool true)) (.ex (eSlice gCut (.vr 5) pNo (pAt (eC (.int 2))))))))))))
def g_look_at_web : List D → Option ((D ⊕ Ex) × List D) := gOfX 6 [false]  d_look_at_web
theorem sc_look_at_web : FnScope ["thing", "many", "ties", "joined", "number", "tie"] ["thing"] (defScope (top 12)) := ⟨rfl, rfl, rfl, by decide +kernel, rfl, by decide +kernel, by decide +kernel⟩
theorem ok_look_at_web {f : Addr} {fd : FuncData} (F : FnP K "look_at_web" (top 12) f fd) (Z : Zs K mg) (G_is_whole : Got P w K mg base 1 "is_whole" ["thing"] (spD ⟨K, mg, Tb⟩ [false] .fz g_is_whole)) (G_is_tie : Got P w K mg base 3 "is_tie" ["many", "thing"] (spD ⟨K, mg, Tb⟩ [false, false] .fz g_is_tie)) (E_NoWeb : GotE P w K mg base 1 "NoWeb" "number") : FnOk P w K mg base (L2.CX P w) 4 f fd ["thing"] (spX ⟨K, mg, Tb⟩ [false] .fz g_look_at_web) := by
  refine okX F sc_look_at_web (spX_len rfl) (fun cdv A outer s H vs Q E hr h tk => ⟨tS ⟨K, mg, Tb⟩ ⟨fun cls dd _ H' => E cls dd H'⟩ d_look_at_web, ?_, bodyX_of (N := ["thing", "many", "ties", "joined", "number", "tie"]) h⟩)
  exact (ds_cons (dS_if (PW.pt (dw_or (dt_not (dt_val (de_isi (by decide +kernel) rfl Z.z_isinstance (do_vr 0) rfl Z.z_tuple (by decide +kernel)))) (dw_or1 (dt_cmp (op_nes hr.units) ok_ne (do_ex (de_callB call_len1 ok_len rfl Z.z_len (by decide +kernel) (da_cons (do_vr 0) da_nil))) (do_ex de_int) (nomark _))))) (ds_one (dS_raiseG rfl tk E_NoWeb hr rfl de_none)) ds_nil)
      (ds_cons (dS_unp (ts := [1, 2]) (de_var 0) (dg_tup rfl (dgs_cons (dg_name 1 sc_look_at_web.nd) (dgs_cons (dg_name 2 sc_look_at_web.nd) dgs_nil)) (takes_cons (takes_cons takes_nil))))
      (ds_cons (dS_if (PW.pt (dw_or (dt_not (dt_val (de_callG G_is_whole hr rfl (da_cons (do_ex (de_var 1)) da_nil)))) (dw_or (dt_not (dt_chain op_le ok_le op_le ok_le (do_ex de_int) (do_vr 1) (do_ex (de_globInt rfl Z.c_MOST_HOUSES.choose_spec)))) (dw_or (dt_not (dt_val (de_isi (by decide +kernel) rfl Z.z_isinstance (do_vr 2) rfl Z.z_list (by decide +kernel)))) (dw_or1 (dt_cmp op_gt ok_gt (do_ex (de_callB call_len1 ok_len rfl Z.z_len (by decide +kernel) (da_cons (do_vr 2) da_nil))) (do_ex (de_globInt rfl Z.c_MOST_TIES.choose_spec)) (nomark _))))))) (ds_one (dS_raiseG rfl tk E_NoWeb hr rfl de_none)) ds_nil)
      (ds_cons (dS_setN (i := 3) sc_look_at_web.nd de_dictT)
      (ds_one (dS_for (ts := [4, 5]) PassesOwn.leaving rfl (di_enumL rfl Z.z_enumerate (de_var 2)) (dg_tup rfl (dgs_cons (dg_name 4 sc_look_at_web.nd) (dgs_cons (dg_name 5 sc_look_at_web.nd) dgs_nil)) (takes_cons (takes_cons takes_nil))) (ds_cons (dS_if (PW.pt (dw_or (dt_not (dt_val (de_callG G_is_tie hr rfl (da_cons (do_ex (de_var 1)) (da_cons (do_ex (de_var 5)) da_nil))))) (dw_or1 (dt_cmp (op_ins (units65 hr)) ok_in (do_ex (de_slice (do_vr 5) dp_none (dp_some de_int))) (do_vr 3) rfl)))) (ds_one (dS_raiseG rfl tk E_NoWeb hr rfl (de_var 4))) ds_nil)
      (ds_one (dS_putD (i := 3) (units1 hr) de_bool (do_ex (de_slice (do_vr 5) dp_none (dp_some de_int))))))))))))
/-! ### prices_in -/
def d_prices_in : Sf := (sq (sSetN 1 eDictT) (sq (sFor (tgTup (tgsCons (tgName 2) (tgsCons (tgName 3) (tgsCons (tgName 4) (tgsCons (tgName 5) tgsNil))))) (iL (op2 gIxs (.vr 0) (.ex (eC (.int 1))))) (sq (sPutD 1 (eVar 4) (.ex (eTup [(.ex (eVar 2)), (.ex (eVar 3))]))) (sPutD 1 (eVar 5) (.ex (eTup [(.ex (eVar 3)), (.ex (eVar 2))]))))) (sRetO 1)))
def g_prices_in : List D → Option (D × List D) := gOfN 6 [false]  d_prices_in
theorem sc_prices_in : FnScope ["web", "found", "one", "other", "there", "back"] ["web"] (defScope (top 13)) := ⟨rfl, rfl, rfl, by decide +kernel, rfl, by decide +kernel, by decide +kernel⟩
theorem ok_prices_in {f : Addr} {fd : FuncData} (F : FnP K "prices_in" (top 13) f fd) (Z : Zs K mg)  : FnOk P w K mg base CX0 1 f fd ["web"] (spD ⟨K, mg, Tb⟩ [false] .nw g_prices_in) := by
  refine okP F sc_prices_in (spD_len rfl) (fun cdv A outer s H vs Q E hr h => ⟨tS ⟨K, mg, Tb⟩ wh0 d_prices_in, ?_, bodyN_of (N := ["web", "found", "one", "other", "there", "back"]) h⟩)
  exact (ds_cons (dS_setN (i := 1) sc_prices_in.nd de_dictT)
      (ds_cons (dS_for (ts := [2, 3, 4, 5]) PassesOwn.never rfl (di_list (de_ixs (units1 hr) (do_vr 0) (do_ex de_int) (fun _ _ => rfl))) (dg_tup rfl (dgs_cons (dg_name 2 sc_prices_in.nd) (dgs_cons (dg_name 3 sc_prices_in.nd) (dgs_cons (dg_name 4 sc_prices_in.nd) (dgs_cons (dg_name 5 sc_prices_in.nd) dgs_nil)))) (takes_cons (takes_cons (takes_cons (takes_cons takes_nil))))) (ds_cons (dS_putD (i := 1) (units1 hr) (de_var 4) (do_ex (de_tup (da_cons (do_ex (de_var 2)) (da_cons (do_ex (de_var 3)) da_nil)))))
      (ds_one (dS_putD (i := 1) (units1 hr) (de_var 5) (do_ex (de_tup (da_cons (do_ex (de_var 3)) (da_cons (do_ex (de_var 2)) da_nil))))))))
      (ds_one (dS_retO 1))))
/-! ### look_at_house -/
def d_look_at_house : Sf := (sIf (bNot (bD (eCall [false, false] g_is_house [(.ex (op2 gIxs (.vr 0) (.ex (eC (.int 0))))), (.ex (eVar 1))]))) (sRaise "NoHouse" "house" (eVar 1)) sNx)
def g_look_at_house : List D → Option ((D ⊕ Ex) × List D) := gOfX 2 [false, false]  d_look_at_house
theorem sc_look_at_house : FnScope ["web", "house"] ["web", "house"] (defScope (top 14)) := ⟨rfl, rfl, rfl, by decide +kernel, rfl, by decide +kernel, by decide +kernel⟩
theorem ok_look_at_house {f : Addr} {fd : FuncData} (F : FnP K "look_at_house" (top 14) f fd) (Z : Zs K mg) (G_is_house : Got P w K mg base 2 "is_house" ["many", "thing"] (spD ⟨K, mg, Tb⟩ [false, false] .fz g_is_house)) (E_NoHouse : GotB P w K mg base 1 "NoHouse" "house") : FnOk P w K mg base (L2.CX P w) 3 f fd ["web", "house"] (spX ⟨K, mg, Tb⟩ [false, false] .fz g_look_at_house) := by
  refine okX F sc_look_at_house (spX_len rfl) (fun cdv A outer s H vs Q E hr h tk => ⟨tS ⟨K, mg, Tb⟩ ⟨fun cls dd _ H' => E cls dd H'⟩ d_look_at_house, ?_, bodyX_of (N := ["web", "house"]) h⟩)
  exact (ds_one (dS_if (dt_not (dt_val (de_callG G_is_house hr rfl (da_cons (do_ex (de_ixs (units1 hr) (do_vr 0) (do_ex de_int) (fun _ _ => rfl))) (da_cons (do_ex (de_var 1)) da_nil))))) (ds_one (dS_raiseGB rfl tk E_NoHouse hr rfl (de_var 1))) ds_nil))
/-! ### neighbours -/
def d_neighbours : Sf := (sq (sDropX (eCallX [false] g_look_at_web [(.ex (eVar 0))])) (sq (sDropX (eCallX [false, false] g_look_at_house [(.ex (eVar 0)), (.ex (eVar 1))])) (sRetN (opA gSrt [(.ex (eLc [2, 3] (tgTup (tgsCons (tgName 2) (tgsCons (tgName 3) tgsNil))) (iKT (eCall [false] g_prices_in [(.ex (eVar 0))])) (bD (op2 gEq (.vr 2) (.vr 1))) (eVar 3)))]))))
def g_neighbours : List D → Option ((D ⊕ Ex) × List D) := gOfXN 4 [false, false]  d_neighbours
theorem sc_neighbours : FnScope ["web", "house", "one", "other"] ["web", "house"] (defScope (top 15)) := ⟨rfl, rfl, rfl, by decide +kernel, rfl, by decide +kernel, by decide +kernel⟩
theorem ok_neighbours {f : Addr} {fd : FuncData} (F : FnP K "neighbours" (top 15) f fd) (Z : Zs K mg) (G_look_at_web : GotX P w K mg base 4 "look_at_web" ["thing"] (spX ⟨K, mg, Tb⟩ [false] .fz g_look_at_web)) (G_look_at_house : GotX P w K mg base 3 "look_at_house" ["web", "house"] (spX ⟨K, mg, Tb⟩ [false, false] .fz g_look_at_house)) (G_prices_in : Got P w K mg base 1 "prices_in" ["web"] (spD ⟨K, mg, Tb⟩ [false] .nw g_prices_in)) : FnOk P w K mg base (L2.CX P w) 5 f fd ["web", "house"] (spX ⟨K, mg, Tb⟩ [false, false] .nw g_neighbours) := by
  refine okX F sc_neighbours (spX_len rfl) (fun cdv A outer s H vs Q E hr h tk => ⟨tS ⟨K, mg, Tb⟩ ⟨fun cls dd _ H' => E cls dd H'⟩ d_neighbours, ?_, bodyXN_of (N := ["web", "house", "one", "other"]) h⟩)
  exact (ds_cons (dS_dropX (de_callXG tk G_look_at_web hr rfl (da_cons (do_ex (de_var 0)) da_nil)))
      (ds_cons (dS_dropX (de_callXG tk G_look_at_house hr rfl (da_cons (do_ex (de_var 0)) (da_cons (do_ex (de_var 1)) da_nil))))
      (ds_one (dS_retN (de_callBN (call_srt rfl) ok_srt rfl Z.z_sorted (by decide +kernel) (da_cons (do_ex (de_new (de_lcL (own := [("one", 2), ("other", 3)]) rfl sc_neighbours.nd (ts := [2, 3]) (by decide) (di_keysT (de_new (de_callGN G_prices_in hr rfl (da_cons (do_ex (de_var 0)) da_nil)))) (blkOk_by (own := [("one", 2), ("other", 3)]) (N := ["web", "house", "one", "other"]) (sc := (defScope (top 15))) (by decide +kernel)) (fun _ _ _ _ _ => (dg_tup rfl (dgs_cons (dg_name 2 sc_neighbours.nd) (dgs_cons (dg_name 3 sc_neighbours.nd) dgs_nil)) (takes_cons (takes_cons takes_nil)))) (fun _ _ _ _ _ => (dts_one (dt_cmp (op_eqs hr.units) ok_eq (do_vr 2) (do_vr 1) (nomark _)))) (fun _ _ _ _ _ => (de_var 3))))) da_nil))))))
/-! ### price_of -/
def d_price_of : Sf := (sq (sDropX (eCallX [false] g_look_at_web [(.ex (eVar 0))])) (sq (sDropX (eCallX [false, false] g_look_at_house [(.ex (eVar 0)), (.ex (eVar 1))])) (sq (sDropX (eCallX [false, false] g_look_at_house [(.ex (eVar 0)), (.ex (eVar 2))])) (sRet (eGet1 (.ex (eCall [false] g_prices_in [(.ex (eVar 0))])) (.ex (eTup [(.ex (eVar 1)), (.ex (eVar 2))])))))))
def g_price_of : List D → Option ((D ⊕ Ex) × List D) := gOfX 3 [false, false, false]  d_price_of
theorem sc_price_of : FnScope ["web", "one", "other"] ["web", "one", "other"] (defScope (top 16)) := ⟨rfl, rfl, rfl, by decide +kernel, rfl, by decide +kernel, by decide +kernel⟩
theorem ok_price_of {f : Addr} {fd : FuncData} (F : FnP K "price_of" (top 16) f fd) (Z : Zs K mg) (G_look_at_web : GotX P w K mg base 4 "look_at_web" ["thing"] (spX ⟨K, mg, Tb⟩ [false] .fz g_look_at_web)) (G_look_at_house : GotX P w K mg base 3 "look_at_house" ["web", "house"] (spX ⟨K, mg, Tb⟩ [false, false] .fz g_look_at_house)) (G_prices_in : Got P w K mg base 1 "prices_in" ["web"] (spD ⟨K, mg, Tb⟩ [false] .nw g_prices_in)) : FnOk P w K mg base (L2.CX P w) 5 f fd ["web", "one", "other"] (spX ⟨K, mg, Tb⟩ [false, false, false] .fz g_price_of) := by
  refine okX F sc_price_of (spX_len rfl) (fun cdv A outer s H vs Q E hr h tk => ⟨tS ⟨K, mg, Tb⟩ ⟨fun cls dd _ H' => E cls dd H'⟩ d_price_of, ?_, bodyX_of (N := ["web", "one", "other"]) h⟩)
  exact (ds_cons (dS_dropX (de_callXG tk G_look_at_web hr rfl (da_cons (do_ex (de_var 0)) da_nil)))
      (ds_cons (dS_dropX (de_callXG tk G_look_at_house hr rfl (da_cons (do_ex (de_var 0)) (da_cons (do_ex (de_var 1)) da_nil))))
      (ds_cons (dS_dropX (de_callXG tk G_look_at_house hr rfl (da_cons (do_ex (de_var 0)) (da_cons (do_ex (de_var 2)) da_nil))))
      (ds_one (dS_ret (de_get1 (units1 hr) (do_ex (de_new (de_callGN G_prices_in hr rfl (da_cons (do_ex (de_var 0)) da_nil)))) (do_ex (de_tup (da_cons (do_ex (de_var 1)) (da_cons (do_ex (de_var 2)) da_nil))))))))))
/-! ### _law_cell_at -/
def d__law_cell_at : Sf := (sq (sIf (bD (op2 gLt (.vr 1) (.ex (opA gLen [(.vr 0)])))) (sRet (op2 gIxs (.vr 0) (.vr 1))) sNx) (sRet (eC (.int 0))))
def g__law_cell_at : List D → Option (D × List D) := gOf 2 [false, false]  d__law_cell_at
theorem sc__law_cell_at : FnScope ["_law_script", "_law_k"] ["_law_script", "_law_k"] (defScope (top 18)) := ⟨rfl, rfl, rfl, by decide +kernel, rfl, by decide +kernel, by decide +kernel⟩
theorem ok__law_cell_at {f : Addr} {fd : FuncData} (F : FnP K "_law_cell_at" (top 18) f fd) (Z : Zs K mg)  : FnOk P w K mg base CX0 1 f fd ["_law_script", "_law_k"] (spD ⟨K, mg, Tb⟩ [false, false] .fz g__law_cell_at) := by
  refine okP F sc__law_cell_at (spD_len rfl) (fun cdv A outer s H vs Q E hr h => ⟨tS ⟨K, mg, Tb⟩ wh0 d__law_cell_at, ?_, body_of (N := ["_law_script", "_law_k"]) h⟩)
  exact (ds_cons (dS_if (dt_cmp op_lt ok_lt (do_vr 1) (do_ex (de_callB call_len1 ok_len rfl Z.z_len (by decide +kernel) (da_cons (do_vr 0) da_nil))) (nomark _)) (ds_one (dS_ret (de_ixs (units1 hr) (do_vr 0) (do_vr 1) (fun _ _ => rfl)))) ds_nil)
      (ds_one (dS_ret de_int)))
/-! ### _law_pool -/
def d__law_pool : Sf := (sq (sSet 2 (eCall [false, false] g__law_cell_at [(.ex (eVar 0)), (.ex (eVar 1))])) (sq (sSet 3 (op2 gMod (.ex (op2 gMuls (.ex (op2 gAdd (.ex (op2 gAdd (.ex (op2 gMod (.vr 2) (.ex (eC (.int 2147483629))))) (.ex (op2 gMuls (.ex (op2 gMuls (.ex (eC (.int 7919))) (.vr 1))) (.vr 1))))) (.ex (eC (.int 1))))) (.ex (eC (.int 48271))))) (.ex (eC (.int 2147483647))))) (sq (sIf (bD (op2 gLt (.vr 2) (.ex (op2 gPow (.ex (eC (.int 10))) (.ex (eC (.int 18))))))) (sSet 2 (eC (.int 0))) sNx) (sRetN (eLst [(.ex (eVar 2)), (.ex (op2 gMod (.ex (op2 gMuls (.vr 3) (.vr 3))) (.ex (eC (.int 2147483629)))))])))))
def g__law_pool : List D → Option (D × List D) := gOfN 4 [false, false]  d__law_pool
theorem sc__law_pool : FnScope ["_law_script", "_law_k", "_law_cell", "_law_seed"] ["_law_script", "_law_k"] (defScope (top 19)) := ⟨rfl, rfl, rfl, by decide +kernel, rfl, by decide +kernel, by decide +kernel⟩
theorem ok__law_pool {f : Addr} {fd : FuncData} (F : FnP K "_law_pool" (top 19) f fd) (Z : Zs K mg) (G__law_cell_at : Got P w K mg base 1 "_law_cell_at" ["_law_script", "_law_k"] (spD ⟨K, mg, Tb⟩ [false, false] .fz g__law_cell_at)) : FnOk P w K mg base CX0 2 f fd ["_law_script", "_law_k"] (spD ⟨K, mg, Tb⟩ [false, false] .nw g__law_pool) := by
  refine okP F sc__law_pool (spD_len rfl) (fun cdv A outer s H vs Q E hr h => ⟨tS ⟨K, mg, Tb⟩ wh0 d__law_pool, ?_, bodyN_of (N := ["_law_script", "_law_k", "_law_cell", "_law_seed"]) h⟩)
  exact (ds_cons (dS_set (i := 2) sc__law_pool.nd (de_callG G__law_cell_at hr rfl (da_cons (do_ex (de_var 0)) (da_cons (do_ex (de_var 1)) da_nil))))
      (ds_cons (dS_set (i := 3) sc__law_pool.nd (de_op op_mod ok_mod (do_ex (de_op op_muls ok_muls (do_ex (de_op op_adds ok_adds (do_ex (de_op op_adds ok_adds (do_ex (de_op op_mod ok_mod (do_vr 2) (do_ex de_int))) (do_ex (de_op op_muls ok_muls (do_ex (de_op op_muls ok_muls (do_ex de_int) (do_vr 1))) (do_vr 1))))) (do_ex de_int))) (do_ex de_int))) (do_ex de_int)))
      (ds_cons (dS_if (dt_cmp op_lt ok_lt (do_vr 2) (do_ex (de_op op_pow ok_pow (do_ex de_int) (do_ex de_int))) (nomark _)) (ds_one (dS_set (i := 2) sc__law_pool.nd de_int)) ds_nil)
      (ds_one (dS_retN (de_lst (da_cons (do_ex (de_var 2)) (da_cons (do_ex (de_op op_mod ok_mod (do_ex (de_op op_muls ok_muls (do_vr 3) (do_vr 3))) (do_ex de_int))) da_nil))))))))
/-! ### _law_take -/
def d__law_take : Sf := (sq (sIf (bD (op2 gGt (.ex (op2 gIxs (.vr 0) (.ex (eC (.int 0))))) (.ex (eC (.int 0))))) (sq (sSet 2 (op2 gMod (.ex (op2 gIxs (.vr 0) (.ex (eC (.int 0))))) (.vr 1))) (sq (sSetIx 0 (op2 gDiv (.ex (op2 gIxs (.vr 0) (.ex (eC (.int 0))))) (.vr 1)) (.ex (eC (.int 0)))) (sRet (eVar 2)))) sNx) (sq (sSetIx 0 (op2 gMod (.ex (op2 gAdd (.ex (op2 gMuls (.ex (op2 gIxs (.vr 0) (.ex (eC (.int 1))))) (.ex (eC (.int 48271))))) (.ex (eC (.int 11))))) (.ex (eC (.int 2147483647)))) (.ex (eC (.int 1)))) (sRet (op2 gMod (.ex (op2 gDiv (.ex (op2 gMod (.ex (op2 gMuls (.ex (op2 gIxs (.vr 0) (.ex (eC (.int 1))))) (.ex (op2 gIxs (.vr 0) (.ex (eC (.int 1))))))) (.ex (eC (.int 2147483629))))) (.ex (eC (.int 64))))) (.vr 1)))))
def g__law_take : List D → Option (D × List D) := gOf 3 [true, false]  d__law_take
theorem sc__law_take : FnScope ["_law_pool_here", "_law_many", "_law_found"] ["_law_pool_here", "_law_many"] (defScope (top 20)) := ⟨rfl, rfl, rfl, by decide +kernel, rfl, by decide +kernel, by decide +kernel⟩
theorem ok__law_take {f : Addr} {fd : FuncData} (F : FnP K "_law_take" (top 20) f fd) (Z : Zs K mg)  : FnOk P w K mg base CX0 1 f fd ["_law_pool_here", "_law_many"] (spD ⟨K, mg, Tb⟩ [true, false] .fz g__law_take) := by
  refine okP F sc__law_take (spD_len rfl) (fun cdv A outer s H vs Q E hr h => ⟨tS ⟨K, mg, Tb⟩ wh0 d__law_take, ?_, body_of (N := ["_law_pool_here", "_law_many", "_law_found"]) h⟩)
  exact (ds_cons (dS_if (dt_cmp op_gt ok_gt (do_ex (de_ixs (units1 hr) (do_vr 0) (do_ex de_int) (fun _ _ => rfl))) (do_ex de_int) (nomark _)) (ds_cons (dS_set (i := 2) sc__law_take.nd (de_op op_mod ok_mod (do_ex (de_ixs (units1 hr) (do_vr 0) (do_ex de_int) (fun _ _ => rfl))) (do_vr 1)))
      (ds_cons (dS_setIx (i := 0) (de_op op_fdivW ok_div (do_ex (de_ixs (units1 hr) (do_vr 0) (do_ex de_int) (fun _ _ => rfl))) (do_vr 1)) (do_ex de_int))
      (ds_one (dS_ret (de_var 2))))) ds_nil)
      (ds_cons (dS_setIx (i := 0) (de_op op_mod ok_mod (do_ex (de_op op_adds ok_adds (do_ex (de_op op_muls ok_muls (do_ex (de_ixs (units1 hr) (do_vr 0) (do_ex de_int) (fun _ _ => rfl))) (do_ex de_int))) (do_ex de_int))) (do_ex de_int)) (do_ex de_int))
      (ds_one (dS_ret (de_op op_mod ok_mod (do_ex (de_op op_fdivW ok_div (do_ex (de_op op_mod ok_mod (do_ex (de_op op_muls ok_muls (do_ex (de_ixs (units1 hr) (do_vr 0) (do_ex de_int) (fun _ _ => rfl))) (do_ex (de_ixs (units1 hr) (do_vr 0) (do_ex de_int) (fun _ _ => rfl))))) (do_ex de_int))) (do_ex de_int))) (do_vr 1))))))
/-! ### _law_price -/
def d__law_price : Sf := (sRet (op2 gIxs (.ex (eLst [(.ex (eC (.int 1))), (.ex (eC (.int 1))), (.ex (eC (.int 2))), (.ex (eC (.int 3))), (.ex (op2 gAdd (.ex (eC (.int 1))) (.ex (eCall [true, false] g__law_take [(.vr 0), (.ex (eC (.int 9)))])))), (.ex (op2 gAdd (.ex (eC (.int 1))) (.ex (eCall [true, false] g__law_take [(.vr 0), (.ex (eC (.int 99)))]))))])) (.ex (eCall [true, false] g__law_take [(.vr 0), (.ex (eC (.int 6)))]))))
def g__law_price : List D → Option (D × List D) := gOf 1 [true]  d__law_price
theorem sc__law_price : FnScope ["_law_pool_here"] ["_law_pool_here"] (defScope (top 21)) := ⟨rfl, rfl, rfl, by decide +kernel, rfl, by decide +kernel, by decide +kernel⟩
theorem ok__law_price {f : Addr} {fd : FuncData} (F : FnP K "_law_price" (top 21) f fd) (Z : Zs K mg) (G__law_take : Got P w K mg base 1 "_law_take" ["_law_pool_here", "_law_many"] (spD ⟨K, mg, Tb⟩ [true, false] .fz g__law_take)) : FnOk P w K mg base CX0 2 f fd ["_law_pool_here"] (spD ⟨K, mg, Tb⟩ [true] .fz g__law_price) := by
  refine okP F sc__law_price (spD_len rfl) (fun cdv A outer s H vs Q E hr h => ⟨tS ⟨K, mg, Tb⟩ wh0 d__law_price, ?_, body_of (N := ["_law_pool_here"]) h⟩)
  exact (ds_one (dS_ret (de_ixs (units1 hr) (do_ex (de_new (de_lst (da_cons (do_ex de_int) (da_cons (do_ex de_int) (da_cons (do_ex de_int) (da_cons (do_ex de_int) (da_cons (do_ex (de_op op_adds ok_adds (do_ex de_int) (do_ex (de_callG G__law_take hr rfl (da_cons (do_vr 0) (da_cons (do_ex de_int) da_nil)))))) (da_cons (do_ex (de_op op_adds ok_adds (do_ex de_int) (do_ex (de_callG G__law_take hr rfl (da_cons (do_vr 0) (da_cons (do_ex de_int) da_nil)))))) da_nil))))))))) (do_ex (de_callG G__law_take hr rfl (da_cons (do_vr 0) (da_cons (do_ex de_int) da_nil)))) (fun _ _ => rfl))))
/-! ### _law_web -/
def d__law_web : Sf := (sq (sSet 2 (op2 gAdd (.ex (eC (.int 1))) (.ex (eCall [true, false] g__law_take [(.vr 0), (.ex (eVar 1))])))) (sq (sSetN 3 (eLst [])) (sq (sFor (tgName 4) (iR1 (.vr 2)) (sFor (tgName 5) (iR2 (.ex (op2 gAdd (.vr 4) (.ex (eC (.int 1))))) (.vr 2)) (sIf (bAnd (bD (op2 gLt (.ex (opA gLen [(.vr 3)])) (.ex (eC (.int 20))))) (bD (op2 gEq (.ex (eCall [true, false] g__law_take [(.vr 0), (.ex (op2 gIxs (.ex (eLst [(.ex (eC (.int 2))), (.ex (eC (.int 3)))])) (.ex (eCall [true, false] g__law_take [(.vr 0), (.ex (eC (.int 2)))]))))])) (.ex (eC (.int 0)))))) (sDrop (eMeth 3 gInsert [(.ex (eCall [true, false] g__law_take [(.vr 0), (.ex (op2 gAdd (.ex (opA gLen [(.vr 3)])) (.ex (eC (.int 1)))))])), (.ex (eTup [(.ex (eVar 4)), (.ex (eVar 5)), (.ex (eCall [true] g__law_price [(.vr 0)])), (.ex (eCall [true] g__law_price [(.vr 0)]))]))])) sNx))) (sRet (eTup [(.ex (eVar 2)), (.ex (eVar 3))])))))
def g__law_web : List D → Option (D × List D) := gOf 6 [true, false]  d__law_web
theorem sc__law_web : FnScope ["_law_pool_here", "_law_most", "_law_many", "_law_ties", "_law_one", "_law_other"] ["_law_pool_here", "_law_most"] (defScope (top 22)) := ⟨rfl, rfl, rfl, by decide +kernel, rfl, by decide +kernel, by decide +kernel⟩
theorem ok__law_web {f : Addr} {fd : FuncData} (F : FnP K "_law_web" (top 22) f fd) (Z : Zs K mg) (G__law_take : Got P w K mg base 1 "_law_take" ["_law_pool_here", "_law_many"] (spD ⟨K, mg, Tb⟩ [true, false] .fz g__law_take)) (G__law_price : Got P w K mg base 2 "_law_price" ["_law_pool_here"] (spD ⟨K, mg, Tb⟩ [true] .fz g__law_price)) : FnOk P w K mg base CX0 3 f fd ["_law_pool_here", "_law_most"] (spD ⟨K, mg, Tb⟩ [true, false] .fz g__law_web) := by
  refine okP F sc__law_web (spD_len rfl) (fun cdv A outer s H vs Q E hr h => ⟨tS ⟨K, mg, Tb⟩ wh0 d__law_web, ?_, body_of (N := ["_law_pool_here", "_law_most", "_law_many", "_law_ties", "_law_one", "_law_other"]) h⟩)
  exact (ds_cons (dS_set (i := 2) sc__law_web.nd (de_op op_adds ok_adds (do_ex de_int) (do_ex (de_callG G__law_take hr rfl (da_cons (do_vr 0) (da_cons (do_ex (de_var 1)) da_nil))))))
      (ds_cons (dS_setN (i := 3) sc__law_web.nd (de_lst da_nil))
      (ds_cons (dS_for (ts := [4]) PassesOwn.never rfl (di_range1 rfl Z.z_range (do_vr 2)) (dg_name 4 sc__law_web.nd) (ds_one (dS_for (ts := [5]) PassesOwn.never rfl (di_range2 rfl Z.z_range (do_ex (de_op op_adds ok_adds (do_vr 4) (do_ex de_int))) (do_vr 2)) (dg_name 5 sc__law_web.nd) (ds_one (dS_if (PW.pt (dw_and (dt_cmp op_lt ok_lt (do_ex (de_callB call_len1 ok_len rfl Z.z_len (by decide +kernel) (da_cons (do_vr 3) da_nil))) (do_ex de_int) (nomark _)) (dw_and1 (dt_cmp (op_eqs hr.units) ok_eq (do_ex (de_callG G__law_take hr rfl (da_cons (do_vr 0) (da_cons (do_ex (de_ixs (units1 hr) (do_ex (de_new (de_lst (da_cons (do_ex de_int) (da_cons (do_ex de_int) da_nil))))) (do_ex (de_callG G__law_take hr rfl (da_cons (do_vr 0) (da_cons (do_ex de_int) da_nil)))) (fun _ _ => rfl))) da_nil)))) (do_ex de_int) (nomark _))))) (ds_one (dS_drop (de_insert (i := 3) (da_cons (do_ex (de_callG G__law_take hr rfl (da_cons (do_vr 0) (da_cons (do_ex (de_op op_adds ok_adds (do_ex (de_callB call_len1 ok_len rfl Z.z_len (by decide +kernel) (da_cons (do_vr 3) da_nil))) (do_ex de_int))) da_nil)))) (da_cons (do_ex (de_tup (da_cons (do_ex (de_var 4)) (da_cons (do_ex (de_var 5)) (da_cons (do_ex (de_callG G__law_price hr rfl (da_cons (do_vr 0) da_nil))) (da_cons (do_ex (de_callG G__law_price hr rfl (da_cons (do_vr 0) da_nil))) da_nil)))))) da_nil))))) ds_nil)))))
      (ds_one (dS_ret (de_tup (da_cons (do_ex (de_var 2)) (da_cons (do_ex (de_var 3)) da_nil))))))))
/-! ### _law_refused -/
def c__law_refused : List Cd := [(mt [("NoWeb", false), ("NoHouse", true)], (some 1), (sRet (eIf (bAnd (bD (op1 (gIsX (some false) (mt [("NoWeb", false), ("NoHouse", true)])) (.vr 1))) (bNot (bD (op1 (gIsX (some false) (mt [("NoWeb", true), ("NoHouse", false)])) (.vr 1))))) (eLst [(.ex (eC (.str "house"))), (.ex (op1 (gXf "house" (okL ["NoHouse"])) (.vr 1)))]) (eC (.str "other"))))), (mt [("NoWeb", true), ("NoHouse", false)], (some 1), (sRet (eLst [(.ex (eC (.str "web"))), (.ex (op1 (gXf "number" (okL ["NoWeb"])) (.vr 1)))])))]
def r__law_refused : Sf := (sRet (eC (.str "told")))
def h__law_refused : D ⊕ Ex → Option D := gTh 2 c__law_refused r__law_refused
theorem sc__law_refused : FnScope ["_law_call", "e"] ["_law_call"] (defScope (top 23)) := ⟨rfl, rfl, rfl, by decide +kernel, rfl, by decide +kernel, by decide +kernel⟩
theorem ok__law_refused {f : Addr} {fd : FuncData} (F : FnP K "_law_refused" (top 23) f fd) (Z : Zs K mg)  (m : mg "_law_refused" = some (.ref f)) (b : Binds K fd ["_law_call"] []) : GotL P w K mg base Tb 5 "_law_refused" h__law_refused := by
  refine ⟨f, fd, top 23, ["_law_call", "e"], "_law_call", _, _, _, _, _, _, _, c__law_refused, r__law_refused, F, m, F.kp, b, sc__law_refused, rfl, rfl, .inl rfl, by decide, by decide, rfl, fun cdv A outer s H hr => ⟨?_, ?_⟩⟩
  · exact (.as_ (i := 1) ⟨rfl, by decide, .inl Z.m_NoHouse⟩ (mtOk_cons (at_cls Z.m_NoWeb Z.x_NoWeb_NoHouse) (mtOk_cons (at_cls Z.m_NoHouse Z.x_NoHouse_NoHouse) mtOk_nil)) rfl rfl (fun a pn wh => (ds_one (dS_ret (de_if (PW.pt (dw_and (dt_val (de_isX rfl Z.z_isinstance (do_vr 1) (pe_bltn (v := .ty "IndexError") rfl Z.z_IndexError (by decide +kernel) rfl) (fun _ h => h) (fun b h => by cases h; exact Z.bn_IndexError) (mkOk_cons (at_cls Z.m_NoWeb ⟨Z.e_NoWeb, Z.b_NoWeb_IndexError⟩) (mkOk_cons (at_cls Z.m_NoHouse ⟨Z.e_NoHouse, Z.b_NoHouse_IndexError⟩) mkOk_nil)))) (dw_and1 (dt_not (dt_val (de_isX rfl Z.z_isinstance (do_vr 1) (de_cls rfl Z.m_HeraldError) (fun _ h => h) (fun b h => by cases h; exact Z.n_HeraldError) (mkOk_cons (at_cls Z.m_NoWeb ⟨Z.e_NoWeb, Z.k_NoWeb_HeraldError⟩) (mkOk_cons (at_cls Z.m_NoHouse ⟨Z.e_NoHouse, Z.k_NoHouse_HeraldError⟩) mkOk_nil)))))))) (de_new (de_lst (da_cons (do_ex de_str) (da_cons (do_ex (de_xf (do_vr 1) (okL_of (mkL_cons (at_cls (P := fun C => XfC _ C ∧ PySem.W.findIn _ (.ref C) "house" = some none) Z.m_NoHouse Z.f_NoHouse_house) mkL_nil)))) da_nil)))) de_str)))) (.as_ (i := 1) ⟨rfl, by decide, .inl Z.m_NoWeb⟩ (mtOk_cons (at_cls Z.m_NoWeb Z.x_NoWeb_NoWeb) (mtOk_cons (at_cls Z.m_NoHouse Z.x_NoHouse_NoWeb) mtOk_nil)) rfl rfl (fun a pn wh => (ds_one (dS_ret (de_new (de_lst (da_cons (do_ex de_str) (da_cons (do_ex (de_xf (do_vr 1) (okL_of (mkL_cons (at_cls (P := fun C => XfC _ C ∧ PySem.W.findIn _ (.ref C) "number" = some none) Z.m_NoWeb Z.f_NoWeb_number) mkL_nil)))) da_nil))))))) .nil))
  · exact (ds_one (dS_ret de_str))
/-! ### law -/
def d_law : Sf := (sq (sFor (tgName 1) (iR1 (.ex (opA gMax2 [(.ex (eC (.int 1))), (.ex (opA gMin2 [(.ex (opA gLen [(.vr 0)])), (.ex (eC (.int 20)))]))]))) (sq (sSetN 2 (eCall [false, false] g__law_pool [(.ex (eVar 0)), (.ex (eVar 1))])) (sq (sSet 3 (eCall [true, false] g__law_web [(.vr 2), (.ex (eC (.int 8)))])) (sq (sUnp (tgTup (tgsCons (tgName 4) (tgsCons (tgName 5) tgsNil))) (eVar 3)) (sq (sSet 6 (op1 gRepr (.vr 3))) (sq (sSetN 7 eDictT) (sq (sFor (tgTup (tgsCons (tgName 8) (tgsCons (tgName 9) (tgsCons (tgName 10) (tgsCons (tgName 11) tgsNil))))) (iL (eVar 5)) (sq (sPutD 7 (eVar 10) (.ex (eTup [(.ex (eVar 8)), (.ex (eVar 9))]))) (sPutD 7 (eVar 11) (.ex (eTup [(.ex (eVar 9)), (.ex (eVar 8))]))))) (sq (sFor (tgName 8) (iR1 (.vr 4)) (sq (sSetN 12 (eLc [9] (tgName 9) (iR1 (.vr 4)) (bD (op2 gIn (.ex (eTup [(.ex (eVar 8)), (.ex (eVar 9))])) (.vr 7))) (eVar 9))) (sq (sSetN 13 (eCall [false, false] (told g_neighbours) [(.ex (eVar 3)), (.ex (eVar 8))])) (sq (sIf (bOr (bNot (bD (op1 (gIsi "list") (.vr 13)))) (bD (op2 gNe (.vr 13) (.vr 12)))) (sRet (eC (.bool false))) sNx) (sq (sDrop (eMeth 13 gAppend [(.ex (eC .none))])) (sq (sIf (bD (op2 gNe (.ex (eCall [false, false] (told g_neighbours) [(.ex (eVar 3)), (.ex (eVar 8))])) (.vr 12))) (sRet (eC (.bool false))) sNx) (sFor (tgName 9) (iR1 (.vr 4)) (sIf (bD (op2 gNe (.ex (eCall [false, false, false] (told g_price_of) [(.ex (eVar 3)), (.ex (eVar 8)), (.ex (eVar 9))])) (.ex (eGet1 (.vr 7) (.ex (eTup [(.ex (eVar 8)), (.ex (eVar 9))])))))) (sRet (eC (.bool false))) sNx)))))))) (sq (sSet 14 (op2 gIxs (.ex (eLst [(.ex (eC .none)), (.ex (op1 gNeg (.ex (eC (.int 1))))), (.ex (eVar 4)), (.ex (eC (.bool true))), (.ex (eC (.str "0"))), (.ex (eTup [(.ex (eC (.int 0)))])), (.ex (eLst [(.ex (eC (.int 0)))])), (.ex (op2 gPow (.ex (eC (.int 10))) (.ex (eC (.int 30)))))])) (.ex (eCall [true, false] g__law_take [(.vr 2), (.ex (eC (.int 8)))])))) (sq (sIf (bD (op2 gNe (.ex (op1 gRepr (.ex (eLam h__law_refused (eCallX [false, false] g_neighbours [(.ex (eVar 3)), (.ex (eVar 14))]))))) (.ex (op1 gRepr (.ex (eLst [(.ex (eC (.str "house"))), (.ex (eVar 14))])))))) (sRet (eC (.bool false))) sNx) (sq (sIf (bD (op2 gNe (.ex (op1 gRepr (.ex (eLam h__law_refused (eCallX [false, false, false] g_price_of [(.ex (eVar 3)), (.ex (eVar 14)), (.ex (eC .none))]))))) (.ex (op1 gRepr (.ex (eLst [(.ex (eC (.str "house"))), (.ex (eVar 14))])))))) (sRet (eC (.bool false))) sNx) (sq (sIf (bOr (bD (op2 gNe (.ex (op1 gRepr (.ex (eLam h__law_refused (eCallX [false, false, false] g_price_of [(.ex (eVar 3)), (.ex (eC (.int 0))), (.ex (eVar 14))]))))) (.ex (op1 gRepr (.ex (eLst [(.ex (eC (.str "house"))), (.ex (eVar 14))])))))) (bD (op2 gNe (.ex (op1 gRepr (.vr 3))) (.vr 6)))) (sRet (eC (.bool false))) sNx) (sq (sIf (bAnd (bD (op2 gNe (.ex (eLam h__law_refused (eCallX [false, false] g_neighbours [(.ex (eTup [(.ex (eVar 4)), (.ex (op2 gAdd (.vr 5) (.ex (eLst [(.ex (eC .none))]))))])), (.ex (eVar 14))]))) (.ex (eLst [(.ex (eC (.str "web"))), (.ex (opA gLen [(.vr 5)]))])))) (bD (op2 gLt (.ex (opA gLen [(.vr 5)])) (.ex (eC (.int 20)))))) (sRet (eC (.bool false))) sNx) (sIf (bD (op2 gNe (.ex (eLam h__law_refused (eCallX [false, false, false] g_price_of [(.ex (eC .none)), (.ex (eVar 14)), (.ex (eVar 14))]))) (.ex (eLst [(.ex (eC (.str "web"))), (.ex (eC .none))])))) (sRet (eC (.bool false))) sNx)))))))))))))) (sRet (eC (.bool true))))
def g_law : List D → Option (D × List D) := gOf 15 [false]  d_law
theorem sc_law : FnScope ["_law_script", "_law_k", "_law_pool_here", "_law_web_here", "_law_many", "_law_ties", "_law_kept", "_law_prices", "_law_one", "_law_other", "_law_there", "_law_back", "_law_due", "_law_found", "_law_odd"] ["_law_script"] (defScope (top 24)) := ⟨rfl, rfl, rfl, by decide +kernel, rfl, by decide +kernel, by decide +kernel⟩
theorem ok_law {f : Addr} {fd : FuncData} (F : FnP K "law" (top 24) f fd) (Z : Zs K mg) (G__law_pool : Got P w K mg base 2 "_law_pool" ["_law_script", "_law_k"] (spD ⟨K, mg, Tb⟩ [false, false] .nw g__law_pool)) (G__law_web : Got P w K mg base 3 "_law_web" ["_law_pool_here", "_law_most"] (spD ⟨K, mg, Tb⟩ [true, false] .fz g__law_web)) (G_neighbours : GotX P w K mg base 5 "neighbours" ["web", "house"] (spX ⟨K, mg, Tb⟩ [false, false] .nw g_neighbours)) (G__law_take : Got P w K mg base 1 "_law_take" ["_law_pool_here", "_law_many"] (spD ⟨K, mg, Tb⟩ [true, false] .fz g__law_take)) (G__law_refused : GotL P w K mg base Tb 5 "_law_refused" h__law_refused) (G_price_of : GotX P w K mg base 5 "price_of" ["web", "one", "other"] (spX ⟨K, mg, Tb⟩ [false, false, false] .fz g_price_of)) (L : LamAt base mg Tb fd.code "law.<locals>.<lambda>") : FnOkG P w K mg base 8 f fd ["_law_script"] (spD ⟨K, mg, Tb⟩ [false] .fz g_law) := by
  refine okGC F sc_law (spD_len rfl) (fun cdv hc A outer s H vs Q E gd hr h => ⟨tS ⟨K, mg, Tb⟩ wh0 d_law, ?_, body_of (N := ["_law_script", "_law_k", "_law_pool_here", "_law_web_here", "_law_many", "_law_ties", "_law_kept", "_law_prices", "_law_one", "_law_other", "_law_there", "_law_back", "_law_due", "_law_found", "_law_odd"]) h⟩)
  have La := L
  rw [hc] at La
  exact (ds_cons (dS_for (ts := [1]) PassesOwn.never rfl (di_range1 rfl Z.z_range (do_ex (de_callB (call_max2 rfl) ok_max2 rfl Z.z_max (by decide +kernel) (da_cons (do_ex de_int) (da_cons (do_ex (de_callB (call_min2 rfl) ok_min2 rfl Z.z_min (by decide +kernel) (da_cons (do_ex (de_callB call_len1 ok_len rfl Z.z_len (by decide +kernel) (da_cons (do_vr 0) da_nil))) (da_cons (do_ex de_int) da_nil)))) da_nil))))) (dg_name 1 sc_law.nd) (ds_cons (dS_setN (i := 2) sc_law.nd (de_callGN G__law_pool hr rfl (da_cons (do_ex (de_var 0)) (da_cons (do_ex (de_var 1)) da_nil))))
      (ds_cons (dS_set (i := 3) sc_law.nd (de_callG G__law_web hr rfl (da_cons (do_vr 2) (da_cons (do_ex de_int) da_nil))))
      (ds_cons (dS_unp (ts := [4, 5]) (de_var 3) (dg_tup rfl (dgs_cons (dg_name 4 sc_law.nd) (dgs_cons (dg_name 5 sc_law.nd) dgs_nil)) (takes_cons (takes_cons takes_nil))))
      (ds_cons (dS_set (i := 6) sc_law.nd (de_repr gd hr rfl Z.z_repr (do_vr 3)))
      (ds_cons (dS_setN (i := 7) sc_law.nd de_dictT)
      (ds_cons (dS_for (ts := [8, 9, 10, 11]) PassesOwn.never rfl (di_list (de_var 5)) (dg_tup rfl (dgs_cons (dg_name 8 sc_law.nd) (dgs_cons (dg_name 9 sc_law.nd) (dgs_cons (dg_name 10 sc_law.nd) (dgs_cons (dg_name 11 sc_law.nd) dgs_nil)))) (takes_cons (takes_cons (takes_cons (takes_cons takes_nil))))) (ds_cons (dS_putD (i := 7) (units1 hr) (de_var 10) (do_ex (de_tup (da_cons (do_ex (de_var 8)) (da_cons (do_ex (de_var 9)) da_nil)))))
      (ds_one (dS_putD (i := 7) (units1 hr) (de_var 11) (do_ex (de_tup (da_cons (do_ex (de_var 9)) (da_cons (do_ex (de_var 8)) da_nil))))))))
      (ds_cons (dS_for (ts := [8]) PassesOwn.never rfl (di_range1 rfl Z.z_range (do_vr 4)) (dg_name 8 sc_law.nd) (ds_cons (dS_setLc (i := 12) (own := [("_law_other", 9)]) rfl sc_law.nd (ts := [9]) (by decide) (sw_true rfl rfl rfl (by decide +kernel)) (di_range1 rfl Z.z_range (do_vr 4)) (blkOk_by (own := [("_law_other", 9)]) (N := ["_law_script", "_law_k", "_law_pool_here", "_law_web_here", "_law_many", "_law_ties", "_law_kept", "_law_prices", "_law_one", "_law_other", "_law_there", "_law_back", "_law_due", "_law_found", "_law_odd"]) (sc := (defScope (top 24))) (by decide +kernel)) (fun _ _ _ _ _ => (dg_name 9 sc_law.nd)) (fun _ _ _ _ _ => (dts_one (dt_cmp (op_ins (units65 hr)) ok_in (do_ex (de_tup (da_cons (do_ex (de_var 8)) (da_cons (do_ex (de_var 9)) da_nil)))) (do_vr 7) rfl))) (fun _ _ _ _ _ => (de_var 9)))
      (ds_cons (dS_setN (i := 13) sc_law.nd (de_callTGN G_neighbours hr rfl (da_cons (do_ex (de_var 3)) (da_cons (do_ex (de_var 8)) da_nil))))
      (ds_cons (dS_if (PW.pt (dw_or (dt_not (dt_val (de_isi (by decide +kernel) rfl Z.z_isinstance (do_vr 13) rfl Z.z_list (by decide +kernel)))) (dw_or1 (dt_cmp (op_nes hr.units) ok_ne (do_vr 13) (do_vr 12) (nomark _))))) (ds_one (dS_ret de_bool)) ds_nil)
      (ds_cons (dS_drop (de_append (i := 13) (da_cons (do_ex de_none) da_nil)))
      (ds_cons (dS_if (dt_cmp (op_nes hr.units) ok_ne (do_ex (de_new (de_callTGN G_neighbours hr rfl (da_cons (do_ex (de_var 3)) (da_cons (do_ex (de_var 8)) da_nil))))) (do_vr 12) (nomark _)) (ds_one (dS_ret de_bool)) ds_nil)
      (ds_one (dS_for (ts := [9]) PassesOwn.never rfl (di_range1 rfl Z.z_range (do_vr 4)) (dg_name 9 sc_law.nd) (ds_one (dS_if (dt_cmp (op_nes hr.units) ok_ne (do_ex (de_callTG G_price_of hr rfl (da_cons (do_ex (de_var 3)) (da_cons (do_ex (de_var 8)) (da_cons (do_ex (de_var 9)) da_nil))))) (do_ex (de_get1 (units1 hr) (do_vr 7) (do_ex (de_tup (da_cons (do_ex (de_var 8)) (da_cons (do_ex (de_var 9)) da_nil)))))) (nomark _)) (ds_one (dS_ret de_bool)) ds_nil))))))))))
      (ds_cons (dS_set (i := 14) sc_law.nd (de_ixs (units1 hr) (do_ex (de_new (de_lst (da_cons (do_ex de_none) (da_cons (do_ex (de_neg (do_ex de_int))) (da_cons (do_ex (de_var 4)) (da_cons (do_ex de_bool) (da_cons (do_ex de_str) (da_cons (do_ex (de_tup (da_cons (do_ex de_int) da_nil))) (da_cons (do_ex (de_new (de_lst (da_cons (do_ex de_int) da_nil)))) (da_cons (do_ex (de_op op_pow ok_pow (do_ex de_int) (do_ex de_int))) da_nil))))))))))) (do_ex (de_callG G__law_take hr rfl (da_cons (do_vr 2) (da_cons (do_ex de_int) da_nil)))) (fun _ _ => rfl)))
      (ds_cons (dS_if (dt_cmp (op_nes hr.units) ok_ne (do_ex (de_repr gd hr rfl Z.z_repr (do_ex (de_lamG G__law_refused La hr rfl (by decide) (show LamX.LamS (defScope (top 24)) _ from LamX.lamS_by (by decide +kernel)) (fun _ _ _ _ _ _ _ hr tk => (de_callXGN tk G_neighbours hr rfl (da_cons (do_ex (de_var 3)) (da_cons (do_ex (de_var 14)) da_nil)))))))) (do_ex (de_repr gd hr rfl Z.z_repr (do_ex (de_new (de_lst (da_cons (do_ex de_str) (da_cons (do_ex (de_var 14)) da_nil))))))) (nomark _)) (ds_one (dS_ret de_bool)) ds_nil)
      (ds_cons (dS_if (dt_cmp (op_nes hr.units) ok_ne (do_ex (de_repr gd hr rfl Z.z_repr (do_ex (de_lamG G__law_refused La hr rfl (by decide) (show LamX.LamS (defScope (top 24)) _ from LamX.lamS_by (by decide +kernel)) (fun _ _ _ _ _ _ _ hr tk => (de_callXG tk G_price_of hr rfl (da_cons (do_ex (de_var 3)) (da_cons (do_ex (de_var 14)) (da_cons (do_ex de_none) da_nil))))))))) (do_ex (de_repr gd hr rfl Z.z_repr (do_ex (de_new (de_lst (da_cons (do_ex de_str) (da_cons (do_ex (de_var 14)) da_nil))))))) (nomark _)) (ds_one (dS_ret de_bool)) ds_nil)
      (ds_cons (dS_if (PW.pt (dw_or (dt_cmp (op_nes hr.units) ok_ne (do_ex (de_repr gd hr rfl Z.z_repr (do_ex (de_lamG G__law_refused La hr rfl (by decide) (show LamX.LamS (defScope (top 24)) _ from LamX.lamS_by (by decide +kernel)) (fun _ _ _ _ _ _ _ hr tk => (de_callXG tk G_price_of hr rfl (da_cons (do_ex (de_var 3)) (da_cons (do_ex de_int) (da_cons (do_ex (de_var 14)) da_nil))))))))) (do_ex (de_repr gd hr rfl Z.z_repr (do_ex (de_new (de_lst (da_cons (do_ex de_str) (da_cons (do_ex (de_var 14)) da_nil))))))) (nomark _)) (dw_or1 (dt_cmp (op_nes hr.units) ok_ne (do_ex (de_repr gd hr rfl Z.z_repr (do_vr 3))) (do_vr 6) (nomark _))))) (ds_one (dS_ret de_bool)) ds_nil)
      (ds_cons (dS_if (PW.pt (dw_and (dt_cmp (op_nes hr.units) ok_ne (do_ex (de_lamG G__law_refused La hr rfl (by decide) (show LamX.LamS (defScope (top 24)) _ from LamX.lamS_by (by decide +kernel)) (fun _ _ _ _ _ _ _ hr tk => (de_callXGN tk G_neighbours hr rfl (da_cons (do_ex (de_tup (da_cons (do_ex (de_var 4)) (da_cons (do_ex (de_op op_adds ok_adds (do_vr 5) (do_ex (de_new (de_lst (da_cons (do_ex de_none) da_nil)))))) da_nil)))) (da_cons (do_ex (de_var 14)) da_nil)))))) (do_ex (de_new (de_lst (da_cons (do_ex de_str) (da_cons (do_ex (de_callB call_len1 ok_len rfl Z.z_len (by decide +kernel) (da_cons (do_vr 5) da_nil))) da_nil))))) (nomark _)) (dw_and1 (dt_cmp op_lt ok_lt (do_ex (de_callB call_len1 ok_len rfl Z.z_len (by decide +kernel) (da_cons (do_vr 5) da_nil))) (do_ex de_int) (nomark _))))) (ds_one (dS_ret de_bool)) ds_nil)
      (ds_one (dS_if (dt_cmp (op_nes hr.units) ok_ne (do_ex (de_lamG G__law_refused La hr rfl (by decide) (show LamX.LamS (defScope (top 24)) _ from LamX.lamS_by (by decide +kernel)) (fun _ _ _ _ _ _ _ hr tk => (de_callXG tk G_price_of hr rfl (da_cons (do_ex de_none) (da_cons (do_ex (de_var 14)) (da_cons (do_ex (de_var 14)) da_nil))))))) (do_ex (de_new (de_lst (da_cons (do_ex de_str) (da_cons (do_ex de_none) da_nil))))) (nomark _)) (ds_one (dS_ret de_bool)) ds_nil)))))))))))))))
      (ds_one (dS_ret de_bool)))
end
end K02

/-! DP: evaluation of bodies as plain functions; no program here. -/
namespace DL
open PySem L2
theorem isi_def (U : String) (d : D) (h : plainTy d = true) : gIsi U d = some (.bool (isT (tyN d) U)) := by simp [gIsi, h]
theorem isi_int_int (i : Int) : gIsi "int" (.int i) = some (.bool true) := rfl
theorem isi_int_bool (i : Bool) : gIsi "int" (.bool i) = some (.bool true) := rfl
theorem isi_int_none : gIsi "int" .none = some (.bool false) := rfl
theorem isi_int_str (x : Str) : gIsi "int" (.str x) = some (.bool false) := rfl
theorem isi_int_list (x : List D) : gIsi "int" (.list x) = some (.bool false) := rfl
theorem isi_int_tuple (x : List D) : gIsi "int" (.tuple x) = some (.bool false) := rfl
theorem isi_int_dict0 : gIsi "int" (.dict []) = some (.bool false) := rfl
theorem isi_bool_int (i : Int) : gIsi "bool" (.int i) = some (.bool false) := rfl
theorem isi_bool_bool (i : Bool) : gIsi "bool" (.bool i) = some (.bool true) := rfl
theorem isi_bool_none : gIsi "bool" .none = some (.bool false) := rfl
theorem isi_bool_str (x : Str) : gIsi "bool" (.str x) = some (.bool false) := rfl
theorem isi_bool_list (x : List D) : gIsi "bool" (.list x) = some (.bool false) := rfl
theorem isi_bool_tuple (x : List D) : gIsi "bool" (.tuple x) = some (.bool false) := rfl
theorem isi_bool_dict0 : gIsi "bool" (.dict []) = some (.bool false) := rfl
theorem isi_tuple_int (i : Int) : gIsi "tuple" (.int i) = some (.bool false) := rfl
theorem isi_tuple_bool (i : Bool) : gIsi "tuple" (.bool i) = some (.bool false) := rfl
theorem isi_tuple_none : gIsi "tuple" .none = some (.bool false) := rfl
theorem isi_tuple_str (x : Str) : gIsi "tuple" (.str x) = some (.bool false) := rfl
theorem isi_tuple_list (x : List D) : gIsi "tuple" (.list x) = some (.bool false) := rfl
theorem isi_tuple_tuple (x : List D) : gIsi "tuple" (.tuple x) = some (.bool true) := rfl
theorem isi_tuple_dict0 : gIsi "tuple" (.dict []) = some (.bool false) := rfl
theorem isi_list_int (i : Int) : gIsi "list" (.int i) = some (.bool false) := rfl
theorem isi_list_bool (i : Bool) : gIsi "list" (.bool i) = some (.bool false) := rfl
theorem isi_list_none : gIsi "list" .none = some (.bool false) := rfl
theorem isi_list_str (x : Str) : gIsi "list" (.str x) = some (.bool false) := rfl
theorem isi_list_list (x : List D) : gIsi "list" (.list x) = some (.bool true) := rfl
theorem isi_list_tuple (x : List D) : gIsi "list" (.tuple x) = some (.bool false) := rfl
theorem isi_list_dict0 : gIsi "list" (.dict []) = some (.bool false) := rfl
theorem len_list (ds : List D) : gLen [.list ds] = some (.int ds.length) := rfl
theorem len_tuple (ds : List D) : gLen [.tuple ds] = some (.int ds.length) := rfl
theorem len_scr (ds : List D) : gLen [.dict [(.none, .list ds)]] = some (.int ds.length) := rfl
theorem ix_list_nat (ds : List D) (i : Int) : gIx (.list ds) (.int i) = atI ds i := rfl
theorem ix_tuple_nat (ds : List D) (i : Int) : gIx (.tuple ds) (.int i) = atI ds i := rfl
theorem ix_scr_nat (ds : List D) (i : Int) : gIx (.dict [(.none, .list ds)]) (.int i) = atI ds i := rfl
theorem add_int (a b : Int) : gAdd (.int a) (.int b) = some (.int (a + b)) := rfl
theorem add_tup (a b : List D) : gAdd (.tuple a) (.tuple b) = if a.length + b.length ≤ 100000 then some (.tuple (a ++ b)) else none := rfl
theorem add_lst (a b : List D) : gAdd (.list a) (.list b) = if a.length + b.length ≤ 100000 then some (.list (a ++ b)) else none := rfl
theorem sub_int (a b : Int) : gSub (.int a) (.int b) = some (.int (a - b)) := rfl
theorem muls_int (a b : Int) : gMuls (.int a) (.int b) = gInt2 (fun i j => (decide (-(2 ^ 64) < i) && decide (i < 2 ^ 64)) || (decide (-(2 ^ 64) < j) && decide (j < 2 ^ 64))) (fun i j => i * j) (.int a) (.int b) := rfl
theorem int2_int (C : Int → Int → Bool) (g : Int → Int → Int) (a b : Int) : gInt2 C g (.int a) (.int b) = if C a b = true then some (.int (g a b)) else none := rfl
theorem cmp_int (p : Int → Int → Bool) (a b : Int) : gCmp p (.int a) (.int b) = some (.bool (p a b)) := rfl
theorem shaped_int (a : Int) : SeqAt.shaped (.int a) = true := rfl
theorem shaped_bool (a : Bool) : SeqAt.shaped (.bool a) = true := rfl
theorem shaped_none : SeqAt.shaped .none = true := rfl
theorem noDct_int (a : Int) : noDct (.int a) = true := by simp [noDct]
theorem eq_int (a b : Int) : gEq (.int a) (.int b) = some (.bool (a == b)) := by
  simp [gEq, gEqq, noDct, shaped_int, PyData.eqv]
theorem ne_int (a b : Int) : gNe (.int a) (.int b) = some (.bool (!(a == b))) := by
  simp [gNe, gEqq, noDct, shaped_int, PyData.eqv]
theorem eq_bool (a b : Bool) : gEq (.bool a) (.bool b) = some (.bool (a == b)) := by
  simp [gEq, gEqq, noDct, shaped_bool, PyData.eqv]
theorem ne_bool (a b : Bool) : gNe (.bool a) (.bool b) = some (.bool (!(a == b))) := by
  simp [gNe, gEqq, noDct, shaped_bool, PyData.eqv]
theorem eq_str (a b : Str) : gEq (.str a) (.str b) = some (.bool (a == b)) := by
  unfold gEq gEqq
  split <;> simp [PyData.eqv]
theorem ne_str (a b : Str) : gNe (.str a) (.str b) = some (.bool (!(a == b))) := by
  unfold gNe gEqq
  split <;> simp [PyData.eqv]

/-! ### small data: at most n parts in each, at most k deep -/
def lv (n : Nat) : Nat → D → Bool
  | _, .none => true
  | _, .bool _ => true
  | _, .int i => decide (i.natAbs < 10 ^ 60)
  | _, .str x => PyData.strOk x && decide ((PyData.shown (.str x)).length ≤ 70)
  | k + 1, .list xs => decide (xs.length ≤ n) && xs.all (lv n k)
  | k + 1, .tuple xs => decide (xs.length ≤ n) && xs.all (lv n k)
  | _, _ => false
def lvL (n : Nat) : Nat → Nat
  | 0 => 70
  | k + 1 => n * (lvL n k + 2) + 73
structure LvOk (n k : Nat) (d : D) : Prop where
  scr : noScr d = true
  sho : d.showable = true
  nod : d.hasDict = false
  dep : d.depth ≤ k
  len : d.shown.length ≤ lvL n k
  lay : d.canLay0 = true
  nd : noDct d = true
  ty : plainTy d = true
structure LvAll (n k : Nat) (ds : List D) : Prop where
  scr : noScrs ds = true
  sho : PyData.showableAll ds = true
  nod : PyData.hasDictAll ds = false
  dep : PyData.depthAll ds ≤ k
  len : ((PyData.shownAll ds).map (·.length)).sum + 2 * ds.length ≤ ds.length * (lvL n k + 2)
  lay : PyData.canLayAll0 ds = true
  nd : noDcts ds = true
theorem LvAll.of {n k : Nat} : ∀ {ds : List D}, (∀ d ∈ ds, LvOk n k d) → LvAll n k ds
  | [], _ => ⟨rfl, rfl, rfl, Nat.zero_le _, by simp [PyData.shownAll], rfl, rfl⟩
  | d :: ds, h => by
    have a := h d List.mem_cons_self
    have b := LvAll.of (n := n) (k := k) (ds := ds) fun x hx => h x (List.mem_cons_of_mem _ hx)
    refine ⟨by simp [noScrs, a.scr, b.scr], by simp [PyData.showableAll, a.sho, b.sho], by simp [PyData.hasDictAll, a.nod, b.nod], Nat.max_le.mpr ⟨a.dep, b.dep⟩, ?_, by simp [PyData.canLayAll0, a.lay, b.lay], by simp [noDcts, a.nd, b.nd]⟩
    have h1 := a.len
    have h2 := b.len
    simp only [PyData.shownAll, List.map_cons, List.sum_cons, List.length_cons, Nat.add_mul] at h2 ⊢
    omega
theorem big62 {i : Int} (h : i.natAbs < 10 ^ 60) : (PyData.shown (.int i)).length ≤ 61 := by
  have e := int_text_length_le10 (k := 60) (by decide) h
  show (Str.ofString (toString i)).length ≤ 61
  rw [ofString_length]; exact e
theorem log62 {i : Int} (h : i.natAbs < 10 ^ 60) : i.natAbs.log2 < 1920 := by
  by_cases z : i.natAbs = 0
  · rw [z]; decide
  · exact (Nat.log2_lt z).mpr (Nat.lt_of_lt_of_le h (by decide +kernel))
theorem lvL_ge (n : Nat) : ∀ k : Nat, 70 ≤ lvL n k
  | 0 => Nat.le_refl _
  | k + 1 => by unfold lvL; omega
theorem lv_flat (n k : Nat) : LvOk n k .none := ⟨rfl, rfl, rfl, Nat.zero_le _, Nat.le_trans (by decide) (lvL_ge n k), rfl, rfl, rfl⟩
theorem lv_ok (n : Nat) : ∀ (k : Nat) (d : D), lv n k d = true → LvOk n k d
  | k, .none, _ => lv_flat n k
  | k, .bool b, _ => ⟨rfl, rfl, rfl, Nat.zero_le _, Nat.le_trans (by cases b <;> decide) (lvL_ge n k), rfl, rfl, rfl⟩
  | k, .int i, h => by
    have h : i.natAbs < 10 ^ 60 := by cases k <;> simpa [lv] using h
    exact ⟨rfl, by simpa [PyData.showable] using log62 h, rfl, Nat.zero_le _, Nat.le_trans (big62 h) (Nat.le_trans (by decide) (lvL_ge n k)), rfl, rfl, rfl⟩
  | k, .str x, h => by
    have h : PyData.strOk x = true ∧ (PyData.shown (.str x)).length ≤ 70 := by cases k <;> simpa [lv] using h
    exact ⟨rfl, rfl, rfl, Nat.zero_le _, Nat.le_trans h.2 (lvL_ge n k), h.1, rfl, rfl⟩
  | 0, .list xs, h => by simp [lv] at h
  | 0, .tuple xs, h => by simp [lv] at h
  | 0, .dict xs, h => by simp [lv] at h
  | k + 1, .dict xs, h => by simp [lv] at h
  | k + 1, .list xs, h => by
    simp only [lv, Bool.and_eq_true, decide_eq_true_eq, List.all_eq_true] at h
    have a := LvAll.of (n := n) (k := k) fun d hd => lv_ok n k d (h.2 d hd)
    refine ⟨by simp [noScr, a.scr], by simp [PyData.showable, a.sho], by simp [PyData.hasDict, a.nod], Nat.succ_le_succ a.dep, ?_, by simp [PyData.canLay0, a.lay], by simp [noDct, a.nd], rfl⟩
    have h1 := listText_len_le (PyData.shownAll xs)
    have h2 := PyData.shownAll_length xs
    have h3 := a.len
    have h4 : xs.length * (lvL n k + 2) ≤ n * (lvL n k + 2) := Nat.mul_le_mul_right _ h.1
    simp only [PyData.shown, lvL]
    omega
  | k + 1, .tuple xs, h => by
    simp only [lv, Bool.and_eq_true, decide_eq_true_eq, List.all_eq_true] at h
    have a := LvAll.of (n := n) (k := k) fun d hd => lv_ok n k d (h.2 d hd)
    refine ⟨by simp [noScr, a.scr], by simp [PyData.showable, a.sho], by simp [PyData.hasDict, a.nod], Nat.succ_le_succ a.dep, ?_, by simp [PyData.canLay0, a.lay], by simp [noDct, a.nd], rfl⟩
    have h1 := tupleText_len_le (PyData.shownAll xs)
    have h2 := PyData.shownAll_length xs
    have h3 := a.len
    have h4 : xs.length * (lvL n k + 2) ≤ n * (lvL n k + 2) := Nat.mul_le_mul_right _ h.1
    simp only [PyData.shown, lvL]
    omega
theorem LvOk.repr {n k : Nat} {d : D} (h : LvOk n k d) (hk : k ≤ 60) (hl : lvL n k ≤ 16000000) : gRepr d = some (.str d.shown) := by
  have e : reprOk d = true := by
    have := h.dep
    have := h.len
    simp [reprOk, h.scr, h.sho, h.nod]
    omega
  simp [gRepr, e]
theorem LvOk.shaped {n k : Nat} {d : D} (h : LvOk n k d) (hk : k ≤ 60) : SeqAt.shaped d = true := by
  have := h.dep
  simp [SeqAt.shaped, h.lay]
  omega
theorem LvOk.eq {n k m j : Nat} {d e : D} (h : LvOk n k d) (g : LvOk m j e) (hk : k ≤ 60) (hj : j ≤ 60) : gEq d e = some (.bool (PyData.eqv d e)) := by
  simp [gEq, gEqq, h.nd, g.nd, h.shaped hk, g.shaped hj]
theorem LvOk.ne {n k m j : Nat} {d e : D} (h : LvOk n k d) (g : LvOk m j e) (hk : k ≤ 60) (hj : j ≤ 60) : gNe d e = some (.bool (!PyData.eqv d e)) := by
  simp [gNe, gEqq, h.nd, g.nd, h.shaped hk, g.shaped hj]
theorem lv_mono {n m : Nat} (hn : n ≤ m) : ∀ (k : Nat) (d : D), lv n k d = true → ∀ j : Nat, k ≤ j → lv m j d = true
  | _, .none, _, j, _ => by cases j <;> rfl
  | _, .bool _, _, j, _ => by cases j <;> rfl
  | k, .int i, h, j, _ => by cases k <;> cases j <;> simpa [lv] using h
  | k, .str i, h, j, _ => by cases k <;> cases j <;> simpa [lv] using h
  | 0, .list xs, h, _, _ => by simp [lv] at h
  | 0, .tuple xs, h, _, _ => by simp [lv] at h
  | 0, .dict xs, h, _, _ => by simp [lv] at h
  | k + 1, .dict xs, h, _, _ => by simp [lv] at h
  | k + 1, .list xs, h, 0, hj => by omega
  | k + 1, .tuple xs, h, 0, hj => by omega
  | k + 1, .list xs, h, j + 1, hj => by
    simp only [lv, Bool.and_eq_true, decide_eq_true_eq, List.all_eq_true] at h ⊢
    exact ⟨by omega, fun d hd => lv_mono hn k d (h.2 d hd) j (by omega)⟩
  | k + 1, .tuple xs, h, j + 1, hj => by
    simp only [lv, Bool.and_eq_true, decide_eq_true_eq, List.all_eq_true] at h ⊢
    exact ⟨by omega, fun d hd => lv_mono hn k d (h.2 d hd) j (by omega)⟩
theorem repr_dict0 : gRepr (.dict []) = some (.str (PyData.shown (.dict []))) := by
  have e : reprOk (.dict []) = true := by decide +kernel
  simp [gRepr, e]
end DL

/-! DW: bodies run forward, step by step. -/
namespace DL
open PySem L2
def Wd (f : Df) (e : En) (Q : D → En → Prop) : Prop := ∃ d e', f e = some (d, e') ∧ Q d e'
def Wo (o : Opd) (e : En) (Q : OV → En → Prop) : Prop := ∃ u e', o.ev e = some (u, e') ∧ Q u e'
def Wb (f : Bf) (e : En) (Q : Bool → En → Prop) : Prop := ∃ b e', f e = some (b, e') ∧ Q b e'
def Wv (os : List Opd) (e : En) (Q : List OV → En → Prop) : Prop := ∃ us e', evs os e = some (us, e') ∧ Q us e'
def Wl (u : OV) (e : En) (Q : D → Prop) : Prop := ∃ d, u.look e = some d ∧ Q d
def Wk (us : List OV) (e : En) (Q : List D → Prop) : Prop := ∃ ds, looks us e = some ds ∧ Q ds
def Wx (x : Option D) (Q : D → Prop) : Prop := ∃ d, x = some d ∧ Q d
def We (x : Option En) (Q : En → Prop) : Prop := ∃ d, x = some d ∧ Q d
def Wy (x : Option (List D)) (Q : List D → Prop) : Prop := ∃ d, x = some d ∧ Q d
def Wf (x : Option (D × List D)) (Q : D → List D → Prop) : Prop := ∃ d os, x = some (d, os) ∧ Q d os
def Ws (f : Sf) (e : En) (Q : Rs → Prop) : Prop := ∃ r, f e = some r ∧ Q r
def Wi (f : If) (e : En) (Q : List D → En → Prop) : Prop := ∃ ds e', f e = some (ds, e') ∧ Q ds e'
def Wp (f : Pf) (e : En) (Q : Option Int → En → Prop) : Prop := ∃ ds e', f e = some (ds, e') ∧ Q ds e'
def Wc (b : Bool) (A B : Prop) : Prop := (b = true → A) ∧ (b = false → B)
section
variable {f g : Df} {a b c : Opd} {e : En} {i j : Nat} {d x y : D} {Q : D → En → Prop} {p q : Bf} {os : List Opd}
theorem wc_t {A B : Prop} (h : A) : Wc true A B := ⟨fun _ => h, nofun⟩
theorem wc_f {A B : Prop} (h : B) : Wc false A B := ⟨nofun, fun _ => h⟩
theorem wc_s {b : Bool} {A B : Prop} (h1 : b = true → A) (h2 : b = false → B) : Wc b A B := ⟨h1, h2⟩
theorem wd_var (h : e[i]? = some (.fz d)) (k : Q d e) : Wd (eVar i) e Q := ⟨d, e, by simp [eVar, h], k⟩
theorem wd_varO (h : e[i]? = some (.ow d)) (k : Q d (e.set i (.fz d))) : Wd (eVar i) e Q := ⟨d, _, by simp [eVar, h], k⟩
theorem wd_c (k : Q d e) : Wd (eC d) e Q := ⟨d, e, rfl, k⟩
theorem wo_ex {Q : OV → En → Prop} (h : Wd f e fun d e => Q (.fz d) e) : Wo (.ex f) e Q := by
  obtain ⟨d, e', h, k⟩ := h
  exact ⟨_, e', by simp [Opd.ev, h], k⟩
theorem wo_f {Q : OV → En → Prop} (h : e[i]? = some (.fz d)) (k : Q (.fz d) e) : Wo (.vr i) e Q := ⟨_, _, by simp [Opd.ev, slotV, h], k⟩
theorem wo_o {Q : OV → En → Prop} (h : e[i]? = some (.ow d)) (k : Q (.sl i) e) : Wo (.vr i) e Q := ⟨_, _, by simp [Opd.ev, slotV, h], k⟩
theorem wo_p {Q : OV → En → Prop} (h : e[i]? = some (.pw d)) (k : Q (.sl i) e) : Wo (.vr i) e Q := ⟨_, _, by simp [Opd.ev, slotV, h], k⟩
theorem wl_f {Q : D → Prop} (k : Q d) : Wl (.fz d) e Q := ⟨_, rfl, k⟩
theorem wl_s {Q : D → Prop} (h : slotD e[i]? = some d) (k : Q d) : Wl (.sl i) e Q := ⟨_, h, k⟩
theorem wv_nil {Q : List OV → En → Prop} (k : Q [] e) : Wv [] e Q := ⟨_, _, rfl, k⟩
theorem wv_cons {Q : List OV → En → Prop} (h : Wo a e fun u e => Wv os e fun us e => Q (u :: us) e) : Wv (a :: os) e Q := by
  obtain ⟨u, e1, h1, us, e2, h2, k⟩ := h
  exact ⟨_, _, by simp [evs, h1, h2], k⟩
theorem wk_nil {Q : List D → Prop} (k : Q []) : Wk [] e Q := ⟨_, rfl, k⟩
theorem wk_cons {Q : List D → Prop} {u : OV} {us : List OV} (h : Wl u e fun d => Wk us e fun ds => Q (d :: ds)) : Wk (u :: us) e Q := by
  obtain ⟨d, h1, ds, h2, k⟩ := h
  exact ⟨_, by simp [looks, h1, h2], k⟩
theorem wx_eq {o : Option D} {Q : D → Prop} (h : o = some d) (k : Q d) : Wx o Q := ⟨_, h, k⟩
theorem wx_if {p : Prop} [Decidable p] {o : Option D} {Q : D → Prop} (h : p) (k : Wx o Q) : Wx (if p then o else none) Q := by rw [if_pos h]; exact k
theorem wx_i2 {C : Int → Int → Bool} {h : Int → Int → Int} {m n : Int} {Q : D → Prop} (hc : C m n = true) (k : Q (.int (h m n))) : Wx (gInt2 C h (.int m) (.int n)) Q := ⟨_, by simp [int2_int, hc], k⟩
theorem wx_mul {m n : Int} {Q : D → Prop} (hc : (-18446744073709551616 < m ∧ m < 18446744073709551616) ∨ (-18446744073709551616 < n ∧ n < 18446744073709551616)) (k : Q (.int (m * n))) : Wx (gMuls (.int m) (.int n)) Q := by
  rw [muls_int]
  exact wx_i2 (by simp only [Bool.or_eq_true, Bool.and_eq_true, decide_eq_true_eq]; omega) k
theorem wx_pow {m n : Int} {Q : D → Prop} (hc : 0 ≤ n ∧ n ≤ 1000 ∧ m.natAbs < 18446744073709551616) (k : Q (.int (m ^ n.toNat))) : Wx (gPow (.int m) (.int n)) Q := wx_i2 (by simp only [Bool.and_eq_true, decide_eq_true_eq]; omega) k
theorem wx_mod {m n : Int} {Q : D → Prop} (hc : 0 < n) (k : Q (.int (m % n))) : Wx (gMod (.int m) (.int n)) Q := wx_i2 (decide_eq_true hc) k
theorem wx_div {m n : Int} {Q : D → Prop} (hc : 0 < n) (hl : n.natAbs.log2 < 9000) (k : Q (.int (m / n))) : Wx (gDiv (.int m) (.int n)) Q := wx_i2 (by simp [hc, hl]) k
theorem wx_addT {m n : List D} {Q : D → Prop} (hc : m.length + n.length ≤ 100000) (k : Q (.tuple (m ++ n))) : Wx (gAdd (.tuple m) (.tuple n)) Q := ⟨_, by simp [add_tup, hc], k⟩
theorem wx_addL {m n : List D} {Q : D → Prop} (hc : m.length + n.length ≤ 100000) (k : Q (.list (m ++ n))) : Wx (gAdd (.list m) (.list n)) Q := ⟨_, by simp [add_lst, hc], k⟩
theorem wx_eqI {m n : Int} {Q : D → Prop} (k : Q (.bool (m == n))) : Wx (gEq (.int m) (.int n)) Q := ⟨_, eq_int m n, k⟩
theorem wx_neI {m n : Int} {Q : D → Prop} (k : Q (.bool (!(m == n)))) : Wx (gNe (.int m) (.int n)) Q := ⟨_, ne_int m n, k⟩
theorem wx_eqB {m n : Bool} {Q : D → Prop} (k : Q (.bool (m == n))) : Wx (gEq (.bool m) (.bool n)) Q := ⟨_, eq_bool m n, k⟩
theorem wx_neB {m n : Bool} {Q : D → Prop} (k : Q (.bool (!(m == n)))) : Wx (gNe (.bool m) (.bool n)) Q := ⟨_, ne_bool m n, k⟩
theorem wx_eqS {m n : Str} {Q : D → Prop} (k : Q (.bool (m == n))) : Wx (gEq (.str m) (.str n)) Q := ⟨_, eq_str m n, k⟩
theorem wx_neS {m n : Str} {Q : D → Prop} (k : Q (.bool (!(m == n)))) : Wx (gNe (.str m) (.str n)) Q := ⟨_, ne_str m n, k⟩
theorem wx_lt {m n : Int} {Q : D → Prop} (k : Q (.bool (decide (m < n)))) : Wx (gLt (.int m) (.int n)) Q := ⟨_, rfl, k⟩
theorem wx_le {m n : Int} {Q : D → Prop} (k : Q (.bool (decide (m ≤ n)))) : Wx (gLe (.int m) (.int n)) Q := ⟨_, rfl, k⟩
theorem wx_gt {m n : Int} {Q : D → Prop} (k : Q (.bool (decide (n < m)))) : Wx (gGt (.int m) (.int n)) Q := ⟨_, rfl, k⟩
theorem wx_ge {m n : Int} {Q : D → Prop} (k : Q (.bool (decide (n ≤ m)))) : Wx (gGe (.int m) (.int n)) Q := ⟨_, rfl, k⟩
theorem atI_get {α : Type} {xs : List α} {i : Int} {x : α} (h0 : 0 ≤ i) (h : xs[i.toNat]? = some x) : atI xs i = some x := by
  obtain ⟨hi, _⟩ := List.getElem?_eq_some_iff.mp h
  have e : ixN xs.length i = some i.toNat := by
    unfold ixN
    rw [if_pos h0, if_pos (by omega)]
  simp [atI, e, h]
theorem wx_ixL {ds : List D} {i : Int} {Q : D → Prop} (h0 : 0 ≤ i) (h : ds[i.toNat]? = some d) (k : Q d) : Wx (gIx (.list ds) (.int i)) Q := ⟨_, atI_get h0 h, k⟩
theorem wx_ixT {ds : List D} {i : Int} {Q : D → Prop} (h0 : 0 ≤ i) (h : ds[i.toNat]? = some d) (k : Q d) : Wx (gIx (.tuple ds) (.int i)) Q := ⟨_, atI_get h0 h, k⟩
theorem wx_ixS {ds : List D} {i : Int} {Q : D → Prop} (h0 : 0 ≤ i) (h : ds[i.toNat]? = some d) (k : Q d) : Wx (gIx (.dict [(.none, .list ds)]) (.int i)) Q := ⟨_, atI_get h0 h, k⟩
theorem ixs_of {x y d : D} (h : gIx x y = some d) : gIxs x y = some d := by simp [gIxs, h]
theorem wx_ixsL {ds : List D} {i : Int} {Q : D → Prop} (h0 : 0 ≤ i) (h : ds[i.toNat]? = some d) (k : Q d) : Wx (gIxs (.list ds) (.int i)) Q := ⟨_, ixs_of (atI_get h0 h), k⟩
theorem wx_ixsT {ds : List D} {i : Int} {Q : D → Prop} (h0 : 0 ≤ i) (h : ds[i.toNat]? = some d) (k : Q d) : Wx (gIxs (.tuple ds) (.int i)) Q := ⟨_, ixs_of (atI_get h0 h), k⟩
theorem wx_ixsS {ds : List D} {i : Int} {Q : D → Prop} (h0 : 0 ≤ i) (h : ds[i.toNat]? = some d) (k : Q d) : Wx (gIxs (.dict [(.none, .list ds)]) (.int i)) Q := ⟨_, ixs_of (atI_get h0 h), k⟩
theorem wq_ixs {x y : D} {Q : D → Prop} (h : gIxs x y = some d) (k : Q d) : Wx (gIxs x y) Q := ⟨_, h, k⟩
theorem wq_in {x y : D} {Q : D → Prop} (h : gIn x y = some d) (k : Q d) : Wx (gIn x y) Q := ⟨_, h, k⟩
theorem wq_nin {x y : D} {Q : D → Prop} (h : gNotIn x y = some d) (k : Q d) : Wx (gNotIn x y) Q := ⟨_, h, k⟩
theorem wq_srt {xs : List D} {Q : D → Prop} (h : gSorted xs = some d) (k : Q d) : Wx (gSorted xs) Q := ⟨_, h, k⟩
theorem wq_dic {xs : List D} {Q : D → Prop} (h : gDictOf xs = some d) (k : Q d) : Wx (gDictOf xs) Q := ⟨_, h, k⟩
theorem wq_isi {U : String} {x : D} {Q : D → Prop} (h : gIsi U x = some d) (k : Q d) : Wx (gIsi U x) Q := ⟨_, h, k⟩
theorem wq_len {xs : List D} {Q : D → Prop} (h : gLen xs = some d) (k : Q d) : Wx (gLen xs) Q := ⟨_, h, k⟩
theorem wq_ix {x y : D} {Q : D → Prop} (h : gIx x y = some d) (k : Q d) : Wx (gIx x y) Q := ⟨_, h, k⟩
theorem wq_add {x y : D} {Q : D → Prop} (h : gAdd x y = some d) (k : Q d) : Wx (gAdd x y) Q := ⟨_, h, k⟩
theorem wq_sub {x y : D} {Q : D → Prop} (h : gSub x y = some d) (k : Q d) : Wx (gSub x y) Q := ⟨_, h, k⟩
theorem wq_neg {x : D} {Q : D → Prop} (h : gNeg x = some d) (k : Q d) : Wx (gNeg x) Q := ⟨_, h, k⟩
theorem wq_rev {x : D} {Q : D → Prop} (h : gRev x = some d) (k : Q d) : Wx (gRev x) Q := ⟨_, h, k⟩
theorem wq_cut {x : D} {l r : Option Int} {Q : D → Prop} (h : gCut x l r = some d) (k : Q d) : Wx (gCut x l r) Q := ⟨_, h, k⟩
theorem wq_int {xs : List D} {Q : D → Prop} (h : gInt xs = some d) (k : Q d) : Wx (gInt xs) Q := ⟨_, h, k⟩
theorem wq_lst {xs : List D} {Q : D → Prop} (h : gList xs = some d) (k : Q d) : Wx (gList xs) Q := ⟨_, h, k⟩
theorem wq_tup {xs : List D} {Q : D → Prop} (h : gTuple xs = some d) (k : Q d) : Wx (gTuple xs) Q := ⟨_, h, k⟩
theorem wq_max {xs : List D} {Q : D → Prop} (h : gMax2 xs = some d) (k : Q d) : Wx (gMax2 xs) Q := ⟨_, h, k⟩
theorem wq_min {xs : List D} {Q : D → Prop} (h : gMin2 xs = some d) (k : Q d) : Wx (gMin2 xs) Q := ⟨_, h, k⟩
theorem wq_all {xs : List D} {Q : D → Prop} (h : gAll xs = some d) (k : Q d) : Wx (gAll xs) Q := ⟨_, h, k⟩
theorem wq_any {xs : List D} {Q : D → Prop} (h : gAny xs = some d) (k : Q d) : Wx (gAny xs) Q := ⟨_, h, k⟩
theorem wq_repr {x : D} {Q : D → Prop} (h : gRepr x = some d) (k : Q d) : Wx (gRepr x) Q := ⟨_, h, k⟩
theorem wq_muls {x y : D} {Q : D → Prop} (h : gMuls x y = some d) (k : Q d) : Wx (gMuls x y) Q := ⟨_, h, k⟩
theorem wq_eq {x y : D} {Q : D → Prop} (h : gEq x y = some d) (k : Q d) : Wx (gEq x y) Q := ⟨_, h, k⟩
theorem wq_ne {x y : D} {Q : D → Prop} (h : gNe x y = some d) (k : Q d) : Wx (gNe x y) Q := ⟨_, h, k⟩
theorem wq_isiT {U : String} {x : D} {Q : D → Prop} (h : gIsi U x = some (.bool true)) (k : Q (.bool true)) : Wx (gIsi U x) Q := ⟨_, h, k⟩
theorem wq_isiF {U : String} {x : D} {Q : D → Prop} (h : gIsi U x = some (.bool false)) (k : Q (.bool false)) : Wx (gIsi U x) Q := ⟨_, h, k⟩
theorem wc_T {b : Bool} {A B : Prop} (h : b = true) (k : A) : Wc b A B := ⟨fun _ => k, fun z => by rw [h] at z; cases z⟩
theorem wc_F {b : Bool} {A B : Prop} (h : b = false) (k : B) : Wc b A B := ⟨fun z => (by rw [h] at z; cases z), fun _ => k⟩
theorem and_put {s : Option Sv} {B : Prop} (h : mayPut s = true) (k : B) : mayPut s = true ∧ B := ⟨h, k⟩
theorem and_len {ds : List D} {B : Prop} (h : ds.length ≤ 100000) (k : B) : ds.length ≤ 100000 ∧ B := ⟨h, k⟩
theorem wd_op1 {g : D → Option D} (h : Wo a e fun u e => Wl u e fun x => Wx (g x) fun d => Q d e) : Wd (op1 g a) e Q := by
  obtain ⟨u, e1, h1, x, h2, d, h3, k⟩ := h
  exact ⟨_, _, by simp [op1, h1, h2, h3], k⟩
theorem wd_op2 {g : D → D → Option D} (h : Wo a e fun u e => Wo b e fun v e => Wl u e fun x => Wl v e fun y => Wx (g x y) fun d => Q d e) : Wd (op2 g a b) e Q := by
  obtain ⟨u, e1, h1, v, e2, h2, x, h3, y, h4, d, h5, k⟩ := h
  exact ⟨_, _, by simp [op2, h1, h2, h3, h4, h5], k⟩
theorem wd_opA {g : List D → Option D} (h : Wv os e fun us e => Wk us e fun xs => Wx (g xs) fun d => Q d e) : Wd (opA g os) e Q := by
  obtain ⟨u, e1, h1, x, h2, d, h3, k⟩ := h
  exact ⟨_, _, by simp [opA, h1, h2, h3], k⟩
theorem wb_d {Q : Bool → En → Prop} (h : Wd f e fun d e => ∃ b, d = .bool b ∧ Q b e) : Wb (bD f) e Q := by
  obtain ⟨_, e1, h1, b, rfl, k⟩ := h
  exact ⟨_, _, by simp [bD, h1], k⟩
theorem wb_and {Q : Bool → En → Prop} (h : Wb p e fun b e => Wc b (Wb q e Q) (Q false e)) : Wb (bAnd p q) e Q := by
  obtain ⟨b, e1, h1, k⟩ := h
  cases b
  · exact ⟨_, _, by simp [bAnd, h1], k.2 rfl⟩
  · obtain ⟨b2, e2, h2, k⟩ := k.1 rfl
    exact ⟨_, _, by simp [bAnd, h1, h2], k⟩
theorem wb_or {Q : Bool → En → Prop} (h : Wb p e fun b e => Wc b (Q true e) (Wb q e Q)) : Wb (bOr p q) e Q := by
  obtain ⟨b, e1, h1, k⟩ := h
  cases b
  · obtain ⟨b2, e2, h2, k⟩ := k.2 rfl
    exact ⟨_, _, by simp [bOr, h1, h2], k⟩
  · exact ⟨_, _, by simp [bOr, h1], k.1 rfl⟩
theorem wb_not {Q : Bool → En → Prop} (h : Wb p e fun b e => Q (!b) e) : Wb (bNot p) e Q := by
  obtain ⟨b, e1, h1, k⟩ := h
  exact ⟨_, _, by simp [bNot, h1], k⟩
theorem wb_tt {Q : Bool → En → Prop} (k : Q true e) : Wb bTrue e Q := ⟨_, _, rfl, k⟩
theorem wd_and (h : Wd f e fun d e => ∃ b, d = .bool b ∧ Wc b (Wd g e Q) (Q (.bool false) e)) : Wd (eAnd f g) e Q := by
  obtain ⟨_, e1, h1, b, rfl, k⟩ := h
  cases b
  · exact ⟨_, _, by simp [eAnd, bD, h1], k.2 rfl⟩
  · obtain ⟨b2, e2, h2, k⟩ := k.1 rfl
    exact ⟨_, _, by simp [eAnd, bD, h1, h2], k⟩
theorem wd_or (h : Wd f e fun d e => ∃ b, d = .bool b ∧ Wc b (Q (.bool true) e) (Wd g e Q)) : Wd (eOr f g) e Q := by
  obtain ⟨_, e1, h1, b, rfl, k⟩ := h
  cases b
  · obtain ⟨b2, e2, h2, k⟩ := k.2 rfl
    exact ⟨_, _, by simp [eOr, bD, h1, h2], k⟩
  · exact ⟨_, _, by simp [eOr, bD, h1], k.1 rfl⟩
theorem wd_not (h : Wd f e fun d e => ∃ b, d = .bool b ∧ Q (.bool (!b)) e) : Wd (eNot f) e Q := by
  obtain ⟨_, e1, h1, b, rfl, k⟩ := h
  exact ⟨_, _, by simp [eNot, bD, h1], k⟩
theorem wd_if (h : Wb p e fun b e => Wc b (Wd f e Q) (Wd g e Q)) : Wd (eIf p f g) e Q := by
  obtain ⟨b, e1, h1, k⟩ := h
  cases b
  · obtain ⟨b2, e2, h2, k⟩ := k.2 rfl
    exact ⟨_, _, by simp [eIf, h1, h2], k⟩
  · obtain ⟨b2, e2, h2, k⟩ := k.1 rfl
    exact ⟨_, _, by simp [eIf, h1, h2], k⟩
theorem wd_chain {g h : D → D → Option D} (k : Wo a e fun u e => Wo b e fun v e => Wl u e fun x => Wl v e fun y => Wx (g x y) fun d => ∃ t, d = .bool t ∧ Wc t (Wo c e fun w e => Wl v e fun y => Wl w e fun z => Wx (h y z) fun d => Q d e) (Q (.bool false) e)) : Wd (eChain g h a b c) e Q := by
  obtain ⟨u, e1, h1, v, e2, h2, x, h3, y, h4, _, h5, t, rfl, k⟩ := k
  cases t
  · exact ⟨_, _, by simp [eChain, h1, h2, h3, h4, h5], k.2 rfl⟩
  · obtain ⟨w, e3, g1, y', g2, z, g3, d, g4, k⟩ := k.1 rfl
    exact ⟨_, _, by simp [eChain, h1, h2, h3, h4, h5, g1, g2, g3, g4], k⟩
theorem wd_tup (h : Wv os e fun us e => Wy (fzAll us) fun ds => ds.length ≤ 100000 ∧ Q (.tuple ds) e) : Wd (eTup os) e Q := by
  obtain ⟨us, e1, h1, ds, h2, hl, k⟩ := h
  exact ⟨_, _, by simp [eTup, h1, h2, hl], k⟩
theorem wd_lst (h : Wv os e fun us e => Wy (fzAll us) fun ds => ds.length ≤ 100000 ∧ Q (.list ds) e) : Wd (eLst os) e Q := by
  obtain ⟨us, e1, h1, ds, h2, hl, k⟩ := h
  exact ⟨_, _, by simp [eLst, h1, h2, hl], k⟩
theorem wy_eq {o : Option (List D)} {ds : List D} {Q : List D → Prop} (h : o = some ds) (k : Q ds) : Wy o Q := ⟨_, h, k⟩
theorem we_eq {o : Option En} {ds : En} {Q : En → Prop} (h : o = some ds) (k : Q ds) : We o Q := ⟨_, h, k⟩
theorem wd_call {fl : List Bool} {g : List D → Option (D × List D)} (h : Wv os e fun us e => Wy (callIn fl us e) fun ds => Wf (g ds) fun d outs => We (putBack (callSl us) outs e) fun e => Q d e) : Wd (eCall fl g os) e Q := by
  obtain ⟨us, e1, h1, ds, h2, d, outs, h3, e2, h4, k⟩ := h
  exact ⟨_, _, by simp [eCall, h1, h2, h3, h4], k⟩
theorem wd_meth {g : List D → D → Option D} (h : Wy (ownL e[i]?) fun _ => Wv os e fun us e => Wy (fzAll us) fun ds => We (chgAt i (g ds) e) fun e => Q .none e) : Wd (eMeth i g os) e Q := by
  obtain ⟨ls, h0, us, e1, h1, ds, h2, e2, h3, k⟩ := h
  exact ⟨_, _, by simp [eMeth, h0, h1, h2, h3], k⟩
theorem wp_no {Q : Option Int → En → Prop} (k : Q none e) : Wp pNo e Q := ⟨_, _, rfl, k⟩
theorem wp_at {Q : Option Int → En → Prop} (h : Wd f e fun d e => ∃ i, d = .int i ∧ Q (some i) e) : Wp (pAt f) e Q := by
  obtain ⟨_, e1, h1, b, rfl, k⟩ := h
  exact ⟨_, _, by simp [pAt, h1], k⟩
theorem wd_slice {g : D → Option Int → Option Int → Option D} {lo hi : Pf} (h : Wo a e fun u e => Wp lo e fun l e => Wp hi e fun h e => Wl u e fun x => Wx (g x l h) fun d => Q d e) : Wd (eSlice g a lo hi) e Q := by
  obtain ⟨u, e1, h1, l, e2, h2, t, e3, h3, x, h4, d, h5, k⟩ := h
  exact ⟨_, _, by simp [eSlice, h1, h2, h3, h4, h5], k⟩
theorem wd_dict0 (k : Q (.dict []) e) : Wd eDict0 e Q := ⟨_, _, rfl, k⟩
theorem wd_lc {vs : List Nat} {t : Tg} {it : If} (h : Wi it e fun ds e1 => ds.length < 100000 ∧ We (wipeE vs e1) fun e2 => ∃ zs e3, lcGo vs t p f ds e2 = some (zs, e3) ∧ Q (.list zs) (restore vs e1 e3)) : Wd (eLc vs t it p f) e Q := by
  obtain ⟨ds, e1, h1, hl, e2, h2, zs, e3, h3, k⟩ := h
  exact ⟨_, _, by simp [eLc, h1, hl, h2, h3], k⟩
theorem wi_l {Q : List D → En → Prop} (h : Wd f e fun d e => ∃ ds, d = .list ds ∧ Q ds e) : Wi (iL f) e Q := by
  obtain ⟨_, e1, h1, b, rfl, k⟩ := h
  exact ⟨_, _, by simp [iL, h1], k⟩
theorem wi_t {Q : List D → En → Prop} (h : Wd f e fun d e => ∃ ds, d = .tuple ds ∧ Q ds e) : Wi (iT f) e Q := by
  obtain ⟨_, e1, h1, b, rfl, k⟩ := h
  exact ⟨_, _, by simp [iT, h1], k⟩
theorem wi_enT {Q : List D → En → Prop} (h : Wd f e fun d e => ∃ ds, d = .tuple ds ∧ Q (numbered 0 ds) e) : Wi (iEnT f) e Q := by
  obtain ⟨_, e1, h1, b, rfl, k⟩ := h
  exact ⟨_, _, by simp [iEnT, h1], k⟩
theorem wi_enL {Q : List D → En → Prop} (h : Wd f e fun d e => ∃ ds, d = .list ds ∧ Q (numbered 0 ds) e) : Wi (iEnL f) e Q := by
  obtain ⟨_, e1, h1, b, rfl, k⟩ := h
  exact ⟨_, _, by simp [iEnL, h1], k⟩
theorem wi_zipT {Q : List D → En → Prop} (h : Wd f e fun d e => ∃ ds, d = .tuple ds ∧ Wd g e fun d e => ∃ es, d = .tuple es ∧ Q (pairs ds es) e) : Wi (iZipT f g) e Q := by
  obtain ⟨_, e1, h1, b, rfl, _, e2, h2, c, rfl, k⟩ := h
  exact ⟨_, _, by simp [iZipT, h1, h2], k⟩
/-- what comes after -/
def Rs.go (A : En → Prop) (Q : Rs → Prop) : Rs → Prop
  | .nx e => A e
  | r => Q r
theorem rg_nx {A : En → Prop} {Q : Rs → Prop} (h : A e) : Rs.go A Q (.nx e) := h
theorem rg_rt {A : En → Prop} {Q : Rs → Prop} (h : Q (.rt d e)) : Rs.go A Q (.rt d e) := h
theorem rg_rn {A : En → Prop} {Q : Rs → Prop} (h : Q (.rn d e)) : Rs.go A Q (.rn d e) := h
theorem rg_bk {A : En → Prop} {Q : Rs → Prop} (h : Q (.bk e)) : Rs.go A Q (.bk e) := h
theorem rg_ct {A : En → Prop} {Q : Rs → Prop} (h : Q (.ct e)) : Rs.go A Q (.ct e) := h
def Rs.fin (fl : List Bool) (Q : D → List D → Prop) : Rs → Prop
  | .nx e => Wy (outsAt (slotsOf 0 fl) e) fun os => Q .none os
  | .rt d e => Wy (outsAt (slotsOf 0 fl) e) fun os => Q d os
  | _ => False
def Rs.finN (fl : List Bool) (Q : D → List D → Prop) : Rs → Prop
  | .rn d e => Wy (outsAt (slotsOf 0 fl) e) fun os => Q d os
  | _ => False
theorem rf_nx {fl : List Bool} {Q : D → List D → Prop} (h : Wy (outsAt (slotsOf 0 fl) e) fun os => Q .none os) : Rs.fin fl Q (.nx e) := h
theorem rf_rt {fl : List Bool} {Q : D → List D → Prop} (h : Wy (outsAt (slotsOf 0 fl) e) fun os => Q d os) : Rs.fin fl Q (.rt d e) := h
theorem rf_rn {fl : List Bool} {Q : D → List D → Prop} (h : Wy (outsAt (slotsOf 0 fl) e) fun os => Q d os) : Rs.finN fl Q (.rn d e) := h
theorem ws_seq {f g : Sf} {Q : Rs → Prop} (h : Ws f e (Rs.go (fun e => Ws g e Q) Q)) : Ws (sq f g) e Q := by
  obtain ⟨r, h1, k⟩ := h
  cases r with
  | nx e1 =>
    obtain ⟨r2, h2, k⟩ := k
    exact ⟨r2, by simp [sq, h1, h2], k⟩
  | _ => exact ⟨_, by simp [sq, h1], k⟩
theorem ws_nx {Q : Rs → Prop} (k : Q (.nx e)) : Ws sNx e Q := ⟨_, rfl, k⟩
theorem ws_if {f g : Sf} {Q : Rs → Prop} (h : Wb p e fun b e => Wc b (Ws f e Q) (Ws g e Q)) : Ws (sIf p f g) e Q := by
  obtain ⟨b, e1, h1, k⟩ := h
  cases b
  · obtain ⟨r, h2, k⟩ := k.2 rfl
    exact ⟨_, by simp [sIf, h1, h2], k⟩
  · obtain ⟨r, h2, k⟩ := k.1 rfl
    exact ⟨_, by simp [sIf, h1, h2], k⟩
theorem ws_set {Q : Rs → Prop} (h : Wd f e fun d e => mayPut e[i]? = true ∧ Q (.nx (e.set i (.fz d)))) : Ws (sSet i f) e Q := by
  obtain ⟨d, e1, h1, h2, k⟩ := h
  exact ⟨_, by simp [sSet, put, h1, h2], k⟩
theorem ws_setN {Q : Rs → Prop} (h : Wd f e fun d e => mayPut e[i]? = true ∧ Q (.nx (e.set i (.ow d)))) : Ws (sSetN i f) e Q := by
  obtain ⟨d, e1, h1, h2, k⟩ := h
  exact ⟨_, by simp [sSetN, put, h1, h2], k⟩
theorem ws_drop {Q : Rs → Prop} (h : Wd f e fun d e => Q (.nx e)) : Ws (sDrop f) e Q := by
  obtain ⟨d, e1, h1, k⟩ := h
  exact ⟨_, by simp [sDrop, h1], k⟩
theorem ws_ret {Q : Rs → Prop} (h : Wd f e fun d e => Q (.rt d e)) : Ws (sRet f) e Q := by
  obtain ⟨d, e1, h1, k⟩ := h
  exact ⟨_, by simp [sRet, h1], k⟩
theorem ws_retN {Q : Rs → Prop} (h : Wd f e fun d e => Q (.rn d e)) : Ws (sRetN f) e Q := by
  obtain ⟨d, e1, h1, k⟩ := h
  exact ⟨_, by simp [sRetN, h1], k⟩
theorem ws_unp {t : Tg} {Q : Rs → Prop} (h : Wd f e fun d e => We (t d e) fun e => Q (.nx e)) : Ws (sUnp t f) e Q := by
  obtain ⟨d, e1, h1, e2, h2, k⟩ := h
  exact ⟨_, by simp [sUnp, h1, h2], k⟩
theorem ws_setIx {Q : Rs → Prop} (h : Wd f e fun d e => Wy (ownL e[i]?) fun _ => Wo a e fun u e => Wl u e fun y => We (chgAt i (sSetIx.gSetL y d) e) fun e => Q (.nx e)) : Ws (sSetIx i f a) e Q := by
  obtain ⟨d, e1, h1, ls, h2, u, e2, h3, y, h4, e3, h5, k⟩ := h
  exact ⟨_, by simp [sSetIx, h1, h2, h3, h4, h5], k⟩
theorem ws_for {t : Tg} {it : If} {body : Sf} {Q : Rs → Prop} (h : Wi it e fun ds e => ∃ r, forD t body ds e = some r ∧ Q r) : Ws (sFor t it body) e Q := by
  obtain ⟨ds, e1, h1, r, h2, k⟩ := h
  exact ⟨_, by simp [sFor, h1, h2], k⟩
theorem wf_of {n : Nat} {fl : List Bool} {body : Sf} {ds : List D} {Q : D → List D → Prop} (hl : ds.length = fl.length) (h : Ws body (env0 n fl ds) (Rs.fin fl Q)) : Wf (gOf n fl body ds) Q := by
  obtain ⟨r, h1, k⟩ := h
  cases r with
  | nx e1 => obtain ⟨os, h2, k⟩ := k; exact ⟨_, _, by simp [gOf, hl, h1, h2], k⟩
  | rt d e1 => obtain ⟨os, h2, k⟩ := k; exact ⟨_, _, by simp [gOf, hl, h1, h2], k⟩
  | _ => exact k.elim
theorem wf_ofN {n : Nat} {fl : List Bool} {body : Sf} {ds : List D} {Q : D → List D → Prop} (hl : ds.length = fl.length) (h : Ws body (env0 n fl ds) (Rs.finN fl Q)) : Wf (gOfN n fl body ds) Q := by
  obtain ⟨r, h1, k⟩ := h
  cases r with
  | rn d e1 => obtain ⟨os, h2, k⟩ := k; exact ⟨_, _, by simp [gOfN, hl, h1, h2], k⟩
  | _ => exact k.elim
theorem wf_eq {o : Option (D × List D)} {d : D} {os : List D} {Q : D → List D → Prop} (h : o = some (d, os)) (k : Q d os) : Wf o Q := ⟨_, _, h, k⟩
theorem wf_use {o : Option (D × List D)} {P Q : D → List D → Prop} (h : Wf o P) (k : ∀ d os, P d os → Q d os) : Wf o Q := by
  obtain ⟨d, os, h, p⟩ := h
  exact ⟨d, os, h, k d os p⟩
end
end DL

/-! DQ: the laws' pool of numbers. -/
namespace DL
open PySem L2
local macro_rules | `(tactic| walk_at "go") => `(tactic| repeat (with_reducible first
  | refine wo_ex ?_ | refine wl_f ?_ | refine wd_c ?_ | refine wd_op2 ?_ | refine wd_op1 ?_ | refine wd_opA ?_ | refine wv_nil ?_ | refine wv_cons ?_ | refine wk_nil ?_ | refine wk_cons ?_
  | refine wc_t ?_ | refine wc_f ?_ | refine wb_d ?_ | refine wb_and ?_ | refine wb_or ?_ | refine wb_not ?_ | refine wb_tt ?_ | refine wd_and ?_ | refine wd_or ?_ | refine wd_not ?_ | refine wd_if ?_ | refine wd_chain ?_
  | refine wd_tup ?_ | refine wd_lst ?_ | refine wd_call ?_ | refine wd_meth ?_ | refine wd_slice ?_ | refine wp_no ?_ | refine wp_at ?_ | refine wd_dict0 ?_ | refine wd_lc ?_ | refine wi_l ?_ | refine wi_t ?_ | refine wi_enT ?_ | refine wi_enL ?_ | refine wi_zipT ?_
  | refine ws_seq ?_ | refine ws_nx ?_ | refine ws_if ?_ | refine ws_set ?_ | refine ws_setN ?_ | refine ws_drop ?_ | refine ws_ret ?_ | refine ws_retN ?_ | refine ws_unp ?_ | refine ws_setIx ?_ | refine ws_for ?_
  | refine rg_nx ?_ | refine rg_rt ?_ | refine rg_rn ?_ | refine rf_nx ?_ | refine rf_rt ?_ | refine rf_rn ?_
  | refine wx_eqI ?_ | refine wx_neI ?_ | refine wx_eqB ?_ | refine wx_neB ?_ | refine wx_eqS ?_ | refine wx_neS ?_ | refine wx_lt ?_ | refine wx_le ?_ | refine wx_gt ?_ | refine wx_ge ?_
  | refine wd_var (by with_unfolding_all rfl) ?_ | refine wd_varO (by with_unfolding_all rfl) ?_ | refine wo_f (by with_unfolding_all rfl) ?_ | refine wo_o (by with_unfolding_all rfl) ?_ | refine wo_p (by with_unfolding_all rfl) ?_ | refine wl_s (by with_unfolding_all rfl) ?_
  | refine wy_eq (by with_unfolding_all rfl) ?_ | refine we_eq (by with_unfolding_all rfl) ?_ | refine ⟨_, rfl, ?_⟩ | refine Exists.intro _ (And.intro rfl ?_)
  | refine and_put (by with_unfolding_all rfl) ?_ | refine and_len (by first | (with_unfolding_all decide) | (simp; done) | (simp; omega)) ?_
  | refine wx_mul (by omega) ?_ | refine wx_mod (by omega) ?_ | refine wx_div (by omega) (by first | assumption | decide) ?_ | refine wx_pow (by decide) ?_ | refine wx_addT (by simp; omega) ?_ | refine wx_addL (by simp; omega) ?_
  | refine wq_isiT (by with_unfolding_all rfl) ?_ | refine wq_isiF (by with_unfolding_all rfl) ?_ | refine wc_T (by with_unfolding_all rfl) ?_ | refine wc_F (by with_unfolding_all rfl) ?_ | refine wq_len (by with_unfolding_all rfl) ?_ | refine wq_ix (by with_unfolding_all rfl) ?_ | refine wq_ixs (by with_unfolding_all rfl) ?_ | refine wq_add (by with_unfolding_all rfl) ?_ | refine wq_sub (by with_unfolding_all rfl) ?_ | refine wq_neg (by with_unfolding_all rfl) ?_ | refine wq_rev (by with_unfolding_all rfl) ?_ | refine wq_cut (by with_unfolding_all rfl) ?_ | refine wq_int (by with_unfolding_all rfl) ?_ | refine wq_lst (by with_unfolding_all rfl) ?_ | refine wq_tup (by with_unfolding_all rfl) ?_ | refine wq_max (by with_unfolding_all rfl) ?_ | refine wq_min (by with_unfolding_all rfl) ?_ | refine wq_all (by with_unfolding_all rfl) ?_))
def dCell : Sf := (sq (sIf (bD (op2 gLt (.vr 1) (.ex (opA gLen [(.vr 0)])))) (sRet (op2 gIxs (.vr 0) (.vr 1))) sNx) (sRet (eC (.int 0))))
def gCell : List D → Option (D × List D) := gOf 2 [false, false] dCell
def dPool : Sf := (sq (sSet 2 (eCall [false, false] gCell [(.ex (eVar 0)), (.ex (eVar 1))])) (sq (sSet 3 (op2 gMod (.ex (op2 gMuls (.ex (op2 gAdd (.ex (op2 gAdd (.ex (op2 gMod (.vr 2) (.ex (eC (.int 2147483629))))) (.ex (op2 gMuls (.ex (op2 gMuls (.ex (eC (.int 7919))) (.vr 1))) (.vr 1))))) (.ex (eC (.int 1))))) (.ex (eC (.int 48271))))) (.ex (eC (.int 2147483647))))) (sq (sIf (bD (op2 gLt (.vr 2) (.ex (op2 gPow (.ex (eC (.int 10))) (.ex (eC (.int 18))))))) (sSet 2 (eC (.int 0))) sNx) (sRetN (eLst [(.ex (eVar 2)), (.ex (op2 gMod (.ex (op2 gMuls (.vr 3) (.vr 3))) (.ex (eC (.int 2147483629)))))])))))
def gPool : List D → Option (D × List D) := gOfN 4 [false, false] dPool
def dTake : Sf := (sq (sIf (bD (op2 gGt (.ex (op2 gIxs (.vr 0) (.ex (eC (.int 0))))) (.ex (eC (.int 0))))) (sq (sSet 2 (op2 gMod (.ex (op2 gIxs (.vr 0) (.ex (eC (.int 0))))) (.vr 1))) (sq (sSetIx 0 (op2 gDiv (.ex (op2 gIxs (.vr 0) (.ex (eC (.int 0))))) (.vr 1)) (.ex (eC (.int 0)))) (sRet (eVar 2)))) sNx) (sq (sSetIx 0 (op2 gMod (.ex (op2 gAdd (.ex (op2 gMuls (.ex (op2 gIxs (.vr 0) (.ex (eC (.int 1))))) (.ex (eC (.int 48271))))) (.ex (eC (.int 11))))) (.ex (eC (.int 2147483647)))) (.ex (eC (.int 1)))) (sRet (op2 gMod (.ex (op2 gDiv (.ex (op2 gMod (.ex (op2 gMuls (.ex (op2 gIxs (.vr 0) (.ex (eC (.int 1))))) (.ex (op2 gIxs (.vr 0) (.ex (eC (.int 1))))))) (.ex (eC (.int 2147483629))))) (.ex (eC (.int 64))))) (.vr 1)))))
def gTake : List D → Option (D × List D) := gOf 3 [true, false] dTake
def IsPool (P : D) : Prop := ∃ c s : Int, P = .list [.int c, .int s] ∧ 0 ≤ s ∧ s < 2147483647
theorem cell_spec (ns : List Int) (k : Nat) : Wf (gCell [.dict [(.none, .list (ns.map .int))], .int k]) fun d os => os = [] ∧ ∃ c : Int, d = .int c := by
  unfold gCell dCell
  refine wf_of rfl ?_
  walk_at "go"
  refine wc_s (fun h => ?_) (fun h => ?_)
  · walk_at "go"
    have h : k < ns.length := by simpa using h
    refine wx_ixsS (Int.natCast_nonneg k) (show (ns.map PyData.int)[(k : Int).toNat]? = some (.int ns[k]) from by simp [h]) ?_
    walk_at "go"
    exact ⟨rfl, _, rfl⟩
  · walk_at "go"
    exact ⟨rfl, _, rfl⟩
theorem mul_lt_big {a b : Int} (ha : 0 ≤ a) (hb : 0 ≤ b) (h1 : a < 2147483648) (h2 : b < 2147483648) : 0 ≤ a * b ∧ a * b < 4611686018427387905 := by
  refine ⟨Int.mul_nonneg ha hb, ?_⟩
  have := Int.mul_le_mul (show a ≤ 2147483648 by omega) (show b ≤ 2147483648 by omega) hb (by decide)
  omega
theorem pool_spec (ns : List Int) (k : Nat) (hk : k < 100) : Wf (gPool [.dict [(.none, .list (ns.map .int))], .int k]) fun d os => os = [] ∧ IsPool d := by
  unfold gPool dPool
  refine wf_ofN rfl ?_
  walk_at "go"
  refine wf_use (cell_spec ns k) ?_
  rintro _ _ ⟨rfl, c, rfl⟩
  have hkk : (0 : Int) ≤ 7919 * (k : Int) * (k : Int) ∧ 7919 * (k : Int) * (k : Int) ≤ 79190000 := by
    have h1 := Int.mul_le_mul (show (k : Int) ≤ 100 by omega) (show (k : Int) ≤ 100 by omega) (by omega) (by decide)
    have h2 := Int.mul_nonneg (show (0 : Int) ≤ k by omega) (show (0 : Int) ≤ k by omega)
    rw [Int.mul_assoc]
    omega
  generalize hkk2 : 7919 * (k : Int) * (k : Int) = kk at hkk
  walk_at "go"
  rw [hkk2]
  have hs : 0 ≤ (c % 2147483629 + kk + 1) * 48271 % 2147483647 ∧ (c % 2147483629 + kk + 1) * 48271 % 2147483647 < 2147483647 := by omega
  generalize (c % 2147483629 + kk + 1) * 48271 % 2147483647 = sd at hs
  refine wc_s (fun h => ?_) (fun h => ?_)
  · walk_at "go"
    exact ⟨rfl, _, _, rfl, by omega, by omega⟩
  · walk_at "go"
    exact ⟨rfl, _, _, rfl, by omega, by omega⟩
theorem take_spec (P : D) (hP : IsPool P) (m : Int) (h0 : 0 < m) (hm : m.natAbs.log2 < 9000) : Wf (gTake [P, .int m]) fun d os => ∃ (x : Int) (P' : D), d = .int x ∧ os = [P'] ∧ 0 ≤ x ∧ x < m ∧ IsPool P' := by
  obtain ⟨c, s, rfl, h1, h2⟩ := hP
  unfold gTake dTake
  refine wf_of rfl ?_
  walk_at "go"
  refine wc_s (fun h => ?_) (fun h => ?_)
  · walk_at "go"
    exact ⟨_, _, rfl, rfl, Int.emod_nonneg _ (by omega), Int.emod_lt_of_pos _ h0, _, _, rfl, h1, h2⟩
  · walk_at "go"
    have hs : 0 ≤ (s * 48271 + 11) % 2147483647 ∧ (s * 48271 + 11) % 2147483647 < 2147483647 := by omega
    generalize (s * 48271 + 11) % 2147483647 = sd at hs ⊢
    exact ⟨_, _, rfl, rfl, Int.emod_nonneg _ (by omega), Int.emod_lt_of_pos _ h0, _, _, rfl, hs⟩
end DL

/-! DR: loops run forward. -/
namespace DL
open PySem L2
section
variable {vs : List Nat} {t : Tg} {p : Bf} {f : Df} {e e0 : En}
theorem lc_pure (g : D → D) : ∀ {ds : List D}, (∀ x ∈ ds, We (t x e0) fun e1 => Wb p e1 fun b e => b = true ∧ Wd f e fun y e => y = g x ∧ We (wipeE vs e) fun e => e = e0) → lcGo vs t p f ds e0 = some (ds.map g, e0)
  | [], _ => rfl
  | x :: ds, h => by
    obtain ⟨e1, h1, b, e2, h2, rfl, y, e3, h3, rfl, e4, h4, e5⟩ := h x List.mem_cons_self
    rw [e5] at h4
    have r := lc_pure (g := g) (ds := ds) fun z hz => h z (List.mem_cons_of_mem _ hz)
    simp [lcGo, h1, h2, h3, h4, r]
theorem lc_inv (I : En → Prop) (R : D → Prop) : ∀ {ds : List D} {e : En}, I e → (∀ x ∈ ds, ∀ e, I e → We (t x e) fun e1 => Wb p e1 fun b e2 => Wc b (Wd f e2 fun y e3 => R y ∧ We (wipeE vs e3) I) (We (wipeE vs e2) I)) →
    ∃ zs e', lcGo vs t p f ds e = some (zs, e') ∧ I e' ∧ zs.length ≤ ds.length ∧ ∀ z ∈ zs, R z
  | [], e, i, _ => ⟨[], e, rfl, i, Nat.le_refl _, nofun⟩
  | x :: ds, e, i, h => by
    obtain ⟨e1, h1, b, e2, h2, k⟩ := h x List.mem_cons_self e i
    have hr : ∀ z ∈ ds, ∀ e, I e → We (t z e) fun e1 => Wb p e1 fun b e2 => Wc b (Wd f e2 fun y e3 => R y ∧ We (wipeE vs e3) I) (We (wipeE vs e2) I) := fun z hz => h z (List.mem_cons_of_mem _ hz)
    cases b
    · obtain ⟨e4, h4, i4⟩ := k.2 rfl
      obtain ⟨zs, e', r, i', hl, ha⟩ := lc_inv I R i4 hr
      exact ⟨zs, e', by simp [lcGo, h1, h2, h4, r], i', Nat.le_succ_of_le hl, ha⟩
    · obtain ⟨y, e3, h3, ry, e4, h4, i4⟩ := k.1 rfl
      obtain ⟨zs, e', r, i', hl, ha⟩ := lc_inv I R i4 hr
      refine ⟨y :: zs, e', by simp [lcGo, h1, h2, h3, h4, r], i', Nat.succ_le_succ hl, fun z hz => ?_⟩
      rcases List.mem_cons.mp hz with rfl | hz
      · exact ry
      · exact ha z hz
/-- a round that goes on -/
def Rs.on (I : En → Prop) : Rs → Prop
  | .nx e => I e
  | .ct e => I e
  | _ => False
theorem ro_nx {I : En → Prop} (h : I e) : Rs.on I (.nx e) := h
theorem for_inv {body : Sf} (I : En → Prop) : ∀ {ds : List D} {e : En}, I e → (∀ x ∈ ds, ∀ e, I e → We (t x e) fun e1 => Ws body e1 (Rs.on I)) → ∃ e', forD t body ds e = some (.nx e') ∧ I e'
  | [], e, i, _ => ⟨e, rfl, i⟩
  | x :: ds, e, i, h => by
    obtain ⟨e1, h1, r, h2, k⟩ := h x List.mem_cons_self e i
    have hr : ∀ z ∈ ds, ∀ e, I e → We (t z e) fun e1 => Ws body e1 (Rs.on I) := fun z hz => h z (List.mem_cons_of_mem _ hz)
    cases r with
    | nx e2 => obtain ⟨e', r, i'⟩ := for_inv I k hr; exact ⟨e', by simp [forD, h1, h2, r], i'⟩
    | ct e2 => obtain ⟨e', r, i'⟩ := for_inv I k hr; exact ⟨e', by simp [forD, h1, h2, r], i'⟩
    | _ => exact k.elim
end
theorem rng_mem {n : Nat} {x : D} (h : x ∈ rng 0 n) : ∃ i : Nat, x = .int i ∧ i < n := by
  unfold rng at h
  obtain ⟨i, hi, rfl⟩ := List.mem_map.mp h
  exact ⟨i, by simp, List.mem_range.mp hi⟩
theorem wi_r1 {a : Opd} {e : En} {Q : List D → En → Prop} (h : Wv [a] e fun us e => Wk us e fun ds => ∃ n : Int, ds = [.int n] ∧ (-4611686018427387904 ≤ n ∧ n < 4611686018427387904) ∧ Q (rng 0 n.toNat) e) : Wi (iR1 a) e Q := by
  obtain ⟨us, e1, h1, _, h2, n, rfl, hn, k⟩ := h
  have hn : -(2 ^ 62) ≤ n ∧ n < 2 ^ 62 := by omega
  exact ⟨_, _, by simp [iR1, h1, h2]; exact hn, k⟩
/-- a bool comes back, nothing was changed -/
def Tells (x : Option (D × List D)) (b : Bool) : Prop := Wf x fun d os => d = .bool b ∧ os = []
theorem Tells.eq {x : Option (D × List D)} {b : Bool} (h : Tells x b) : x = some (.bool b, []) := by
  obtain ⟨_, _, h, rfl, rfl⟩ := h
  exact h
theorem Tells.use {x : Option (D × List D)} {b : Bool} {Q : D → List D → Prop} (h : Tells x b) (k : Q (.bool b) []) : Wf x Q := ⟨_, _, h.eq, k⟩
end DL

/-! DS: more of what the laws' makers do. -/
namespace DL
open PySem L2
theorem cut_to {xs : List D} {i : Int} (h : 0 ≤ i) : cutD xs none (some i) = xs.take i.toNat := by
  obtain ⟨n, rfl⟩ := Int.eq_ofNat_of_zero_le h
  unfold cutD
  rw [HT.sIx_none, HT.sIx_nat, List.drop_zero, Nat.sub_zero, Int.toNat_natCast]
  rcases Nat.le_total n xs.length with q | q
  · rw [Nat.min_eq_left q]
  · rw [Nat.min_eq_right q, List.take_of_length_le (Nat.le_refl _), List.take_of_length_le q]
theorem cut_from {xs : List D} {i : Int} (h : 0 ≤ i) : cutD xs (some i) none = xs.drop i.toNat := by
  obtain ⟨n, rfl⟩ := Int.eq_ofNat_of_zero_le h
  unfold cutD
  rw [HT.sIx_none, HT.sIx_nat, Int.toNat_natCast]
  rcases Nat.le_total n xs.length with q | q
  · rw [Nat.min_eq_left q, List.take_of_length_le (by rw [List.length_drop]; exact Nat.le_refl _)]
  · rw [Nat.min_eq_right q, List.drop_of_length_le (Nat.le_refl _), List.drop_of_length_le q, List.take_nil]
theorem wx_toT {xs : List D} {i : Int} {Q : D → Prop} (h : 0 ≤ i) (k : Q (.tuple (xs.take i.toNat))) : Wx (gCut (.tuple xs) none (some i)) Q := ⟨_, by rw [← cut_to h]; rfl, k⟩
theorem wx_fromT {xs : List D} {i : Int} {Q : D → Prop} (h : 0 ≤ i) (k : Q (.tuple (xs.drop i.toNat))) : Wx (gCut (.tuple xs) (some i) none) Q := ⟨_, by rw [← cut_from h]; rfl, k⟩
theorem wx_toL {xs : List D} {i : Int} {Q : D → Prop} (h : 0 ≤ i) (k : Q (.list (xs.take i.toNat))) : Wx (gCut (.list xs) none (some i)) Q := ⟨_, by rw [← cut_to h]; rfl, k⟩
theorem wx_fromL {xs : List D} {i : Int} {Q : D → Prop} (h : 0 ≤ i) (k : Q (.list (xs.drop i.toNat))) : Wx (gCut (.list xs) (some i) none) Q := ⟨_, by rw [← cut_from h]; rfl, k⟩
/-- one of them -/
theorem wx_pick {P : D → Prop} {L : List D} {i : Int} {Q : D → Prop} (h : ∀ d ∈ L, P d) (h0 : 0 ≤ i) (hl : i < L.length) (k : ∀ d, P d → Q d) : Wx (gIx (.list L) (.int i)) Q := by
  have hl : i.toNat < L.length := by omega
  refine wx_ixL h0 (List.getElem?_eq_getElem hl) (k _ (h _ (List.getElem_mem hl)))
theorem take_use {P : D} {m : Int} {Q : D → List D → Prop} (hP : IsPool P) (h0 : 0 < m) (hm : m < 10 ^ 40) (k : ∀ (x : Int) (P' : D), 0 ≤ x → x < m → IsPool P' → Q (.int x) [P']) : Wf (gTake [P, .int m]) Q := by
  refine wf_use (take_spec P hP m h0 ?_) ?_
  · refine (Nat.log2_lt (by omega)).mpr ?_
    have : m.natAbs < 10 ^ 40 := by omega
    exact Nat.lt_of_lt_of_le this (by decide +kernel)
  · rintro _ _ ⟨x, P', rfl, rfl, h1, h2, hP'⟩
    exact k x P' h1 h2 hP'
theorem mul_flag (zs : List D) (b : Bool) : ∃ ts, gMuls (.tuple zs) (.int (if b = true then 1 else 0)) = some (.tuple ts) ∧ (ts = zs ∨ ts = []) := by
  cases b with
  | true => exact ⟨zs, by simp [gMuls], .inl rfl⟩
  | false =>
    cases zs with
    | nil => exact ⟨[], by simp [gMuls], .inr rfl⟩
    | cons a r => exact ⟨[], by simp [gMuls], .inr rfl⟩
theorem lv_str {n : Nat} {x : Str} (h : (PyData.strOk x && decide ((PyData.shown (.str x)).length ≤ 70)) = true) (k : Nat) : lv n k (.str x) = true := by
  cases k <;> simpa [lv] using h
theorem lv_i {n : Nat} {i : Int} (h : i.natAbs < 10 ^ 60) (k : Nat) : lv n k (.int i) = true := by
  cases k <;> simpa [lv] using h
theorem lv_b {n : Nat} (b : Bool) (k : Nat) : lv n k (.bool b) = true := by cases k <;> rfl
theorem lv_n {n : Nat} (k : Nat) : lv n k .none = true := by cases k <;> rfl
theorem lv_t {n k : Nat} {xs : List D} (h : xs.length ≤ n) (a : ∀ x ∈ xs, lv n k x = true) : lv n (k + 1) (.tuple xs) = true := by
  simp only [lv, Bool.and_eq_true, decide_eq_true_eq, List.all_eq_true]
  exact ⟨h, a⟩
theorem lv_l {n k : Nat} {xs : List D} (h : xs.length ≤ n) (a : ∀ x ∈ xs, lv n k x = true) : lv n (k + 1) (.list xs) = true := by
  simp only [lv, Bool.and_eq_true, decide_eq_true_eq, List.all_eq_true]
  exact ⟨h, a⟩
theorem all_nil {P : D → Prop} : ∀ x ∈ ([] : List D), P x := nofun
theorem all_cons {P : D → Prop} {d : D} {ds : List D} (h : P d) (a : ∀ x ∈ ds, P x) : ∀ x ∈ d :: ds, P x := fun x hx => by
  rcases List.mem_cons.mp hx with rfl | hx
  · exact h
  · exact a x hx
theorem all_app {P : D → Prop} {as ds : List D} (h : ∀ x ∈ as, P x) (a : ∀ x ∈ ds, P x) : ∀ x ∈ as ++ ds, P x := fun x hx => by
  rcases List.mem_append.mp hx with hx | hx
  · exact h x hx
  · exact a x hx
theorem all_take {P : D → Prop} {as : List D} {n : Nat} (h : ∀ x ∈ as, P x) : ∀ x ∈ as.take n, P x := fun x hx => h x (List.mem_of_mem_take hx)
theorem all_drop {P : D → Prop} {as : List D} {n : Nat} (h : ∀ x ∈ as, P x) : ∀ x ∈ as.drop n, P x := fun x hx => h x (List.mem_of_mem_drop hx)
theorem all_rev {P : D → Prop} {as : List D} (h : ∀ x ∈ as, P x) : ∀ x ∈ as.reverse, P x := fun x hx => h x (List.mem_reverse.mp hx)
theorem for_use {t : Tg} {body : Sf} {Q : Rs → Prop} {ds : List D} {e : En} (I : En → Prop) (hi : I e) (hb : ∀ x ∈ ds, ∀ e, I e → We (t x e) fun e1 => Ws body e1 (Rs.on I)) (k : ∀ e, I e → Q (.nx e)) : ∃ r, forD t body ds e = some r ∧ Q r := by
  obtain ⟨e', h, i⟩ := for_inv I hi hb
  exact ⟨_, h, k e' i⟩
theorem put_one {i : Nat} {s : Sv} {e : En} {x : D} {Q : En → Prop} (h : mayPut e[i]? = true) (k : Q (e.set i (.fz x))) : We (tgName i x e) Q := ⟨_, by simp [tgName, put, h], k⟩
end DL

/-! DX: dicts, trees, while loops run forward. -/
namespace DL
open PySem L2
def Wm (f : Mf) (e : En) (Q : Sh → D → En → Prop) : Prop := ∃ s d e', f e = some (s, d, e') ∧ Q s d e'
def Wms (fs : List Mf) (e : En) (Q : List (Sh × D) → En → Prop) : Prop := ∃ ts e', evM fs e = some (ts, e') ∧ Q ts e'
def Wg (x : Option (Option D)) (Q : Option D → Prop) : Prop := ∃ d, x = some d ∧ Q d
def Wpl (pl : Plf) (e : En) (Q : Nat → List Stp → Prop) : Prop := ∃ i π, pl e = some (i, π) ∧ Q i π
def Wq (f : Qf) (e : En) (Q : D → Prop) : Prop := ∃ d, f e = some d ∧ Q d
section
variable {f g : Df} {a b c : Opd} {e : En} {i j : Nat} {d x y : D} {Q : D → En → Prop} {p q : Bf} {os : List Opd} {s : Sh}
theorem wg_eq {o : Option (Option D)} {r : Option D} {Q : Option D → Prop} (h : o = some r) (k : Q r) : Wg o Q := ⟨_, h, k⟩
theorem wd_get1 (h : Wo a e fun u e => Wl u e fun x => isDc x = true ∧ Wo b e fun v e => Wl u e fun x => Wl v e fun y => Wg (dGet x y) fun z => Q (z.getD .none) e) : Wd (eGet1 a b) e Q := by
  obtain ⟨u, e1, h1, x, h2, hd, v, e2, h3, x', h4, y, h5, z, h6, k⟩ := h
  exact ⟨_, _, by simp [eGet1, h1, h2, hd, h3, h4, h5, h6], k⟩
theorem wd_get2 (h : Wo a e fun u e => Wl u e fun x => isDc x = true ∧ Wo b e fun v e => Wd f e fun w e => Wl u e fun x => Wl v e fun y => Wg (dGet x y) fun z => Q (z.getD w) e) : Wd (eGet2 a b f) e Q := by
  obtain ⟨u, e1, h1, x, h2, hd, v, e2, h3, w, e3, h3', x', h4, y, h5, z, h6, k⟩ := h
  exact ⟨_, _, by simp [eGet2, h1, h2, hd, h3, h3', h4, h5, h6], k⟩
theorem wx_isN {n : Bool} {Q : D → Prop} (k : Q (.bool (xor n (isNon x)))) : Wx (gIsN n x) Q := ⟨_, rfl, k⟩
theorem ws_putD {Q : Rs → Prop} (h : Wd f e fun d e => Wx (ownD e[i]?) fun _ => Wo a e fun u e => Wl u e fun y => We (chgAt i (gPutD y d) e) fun e => Q (.nx e)) : Ws (sPutD i f a) e Q := by
  obtain ⟨d, e1, h1, o, h2, u, e2, h3, y, h4, e3, h5, k⟩ := h
  exact ⟨_, by simp [sPutD, h1, h2, h3, h4, h5], k⟩
theorem wd_methR {gm : List D → List D → Option (D × List D)} (h : Wy (ownL e[i]?) fun _ => Wv os e fun us e => Wy (fzAll us) fun ds => Wy (ownL e[i]?) fun ls => ∃ z zs, gm ds ls = some (z, zs) ∧ We (chgAt i (fun _ => some (.list zs)) e) fun e => Q z e) : Wd (eMethR i gm os) e Q := by
  obtain ⟨l0, h0, us, e1, h1, ds, h2, ls, h3, z, zs, h4, e2, h5, k⟩ := h
  exact ⟨_, _, by simp [eMethR, h0, h1, h2, h3, h4, h5], k⟩
theorem wd_disp {ps : List (Df × Df)} (hl : ps.length ≤ 15) (h : ∃ md e', evP ps e = some (md, e') ∧ Q (.dict (mergeD [] md)) e') : Wd (eDisp ps) e Q := by
  obtain ⟨md, e1, h1, k⟩ := h
  exact ⟨_, _, by simp [eDisp, hl, h1], k⟩
theorem evp_nil {R : List (Key × D) → En → Prop} (k : R [] e) : ∃ md e', evP [] e = some (md, e') ∧ R md e' := ⟨_, _, rfl, k⟩
theorem evp_cons {ps : List (Df × Df)} {R : List (Key × D) → En → Prop} (h : Wd f e fun kd e => ∃ k, keyD kd = some k ∧ Wd g e fun v e => ∃ md e', evP ps e = some (md, e') ∧ R ((k, v) :: md) e') : ∃ md e', evP ((f, g) :: ps) e = some (md, e') ∧ R md e' := by
  obtain ⟨kd, e1, h1, k, h2, v, e2, h3, md, e3, h4, r⟩ := h
  exact ⟨_, _, by simp [evP, h1, h2, h3, h4], r⟩
/-! trees -/
theorem ws_retO {Q : Rs → Prop} (h : e[i]? = some (.ow d)) (k : Q (.rn d e)) : Ws (sRetO i) e Q := ⟨_, by simp [sRetO, h], k⟩
theorem wm_f {Q : Sh → D → En → Prop} (h : Wd f e fun d e => Q .fz d e) : Wm (mF f) e Q := by
  obtain ⟨d, e1, h1, k⟩ := h
  exact ⟨_, _, _, by simp [mF, h1], k⟩
theorem wm_n {Q : Sh → D → En → Prop} (h : Wd f e fun d e => fits s d = true ∧ Q s d e) : Wm (mN s f) e Q := by
  obtain ⟨d, e1, h1, h2, k⟩ := h
  exact ⟨_, _, _, by simp [mN, h1, h2], k⟩
theorem wm_ow {Q : Sh → D → En → Prop} (h : e[i]? = some (.ow d)) (hf : fits s d = true) (k : Q s d (e.set i .un)) : Wm (mOw s i) e Q := ⟨_, _, _, by simp [mOw, h, hf], k⟩
theorem wms_nil {Q : List (Sh × D) → En → Prop} (k : Q [] e) : Wms [] e Q := ⟨_, _, rfl, k⟩
theorem wms_cons {m : Mf} {ms : List Mf} {Q : List (Sh × D) → En → Prop} (h : Wm m e fun s d e => Wms ms e fun ts e => Q ((s, d) :: ts) e) : Wms (m :: ms) e Q := by
  obtain ⟨s, d, e1, h1, ts, e2, h2, k⟩ := h
  exact ⟨_, _, by simp [evM, h1, h2], k⟩
theorem wm_tup {ms : List Mf} {Q : Sh → D → En → Prop} (h : Wms ms e fun ts e => (ts.length ≤ 100000 ∧ (ts.any fun t => decide (t.1 ≠ .fz)) = true) ∧ Q (.tp (shP ts)) (.tuple (ts.map (·.2))) e) : Wm (mTup ms) e Q := by
  obtain ⟨ts, e1, h1, hl, k⟩ := h
  exact ⟨_, _, _, by simp only [mTup, h1, Option.bind_some, if_pos hl], k⟩
theorem wm_call {fl : List Bool} {s : Sh} {gg : List D → Option (D × List D)} {Q : Sh → D → En → Prop} (h : Wd (eCall fl gg os) e fun d e => Q s d e) : Wm (eCallM fl s gg os) e Q := by
  obtain ⟨d, e1, h1, k⟩ := h
  exact ⟨_, _, _, by simp [eCallM, h1], k⟩
theorem wd_fz {m : Mf} (h : Wm m e fun s d e => s.flat = true ∧ Q d e) : Wd (eFz m) e Q := by
  obtain ⟨s, d, e1, h1, hf, k⟩ := h
  exact ⟨_, _, by simp [eFz, h1, hf], k⟩
theorem ws_setT {m : Mf} {Q : Rs → Prop} (h : Wm m e fun s d e => mayPut e[i]? = true ∧ Q (.nx (e.set i (.tr s d)))) : Ws (sSetT i m) e Q := by
  obtain ⟨s, d, e1, h1, h2, k⟩ := h
  exact ⟨_, by simp [sSetT, put, h1, h2], k⟩
theorem ws_retT {m : Mf} {Q : Rs → Prop} (h : Wm m e fun s d e => Q (.rm s d e)) : Ws (sRetT m) e Q := by
  obtain ⟨s, d, e1, h1, k⟩ := h
  exact ⟨_, by simp [sRetT, h1], k⟩
theorem wd_reprT (h : trAt e i = some (s, d)) (hf : s.flat = true) (hr : gRepr d = some x) (k : Q x e) : Wd (eReprT i) e Q := ⟨_, _, by simp [eReprT, h, hf, hr], k⟩
theorem rg_rm {A : En → Prop} {Q : Rs → Prop} (h : Q (.rm s d e)) : Rs.go A Q (.rm s d e) := h
def Rs.finM (fl : List Bool) (s : Sh) (Q : D → List D → Prop) : Rs → Prop
  | .rm s' d e => s' = s ∧ Wy (outsAt (slotsOf 0 fl) e) fun os => Q d os
  | _ => False
theorem rf_rm {fl : List Bool} {s' : Sh} {Q : D → List D → Prop} (hs : s' = s) (h : Wy (outsAt (slotsOf 0 fl) e) fun os => Q d os) : Rs.finM fl s Q (.rm s' d e) := ⟨hs, h⟩
theorem wf_ofM {n : Nat} {fl : List Bool} {s : Sh} {body : Sf} {ds : List D} {Q : D → List D → Prop} (hl : ds.length = fl.length) (h : Ws body (env0 n fl ds) (Rs.finM fl s Q)) : Wf (gOfM n fl s body ds) Q := by
  obtain ⟨r, h1, k⟩ := h
  cases r with
  | rm s' d e1 => obtain ⟨rfl, os, h2, k⟩ := k; exact ⟨_, _, by simp [gOfM, hl, h1, h2], k⟩
  | _ => exact k.elim
/-! places -/
theorem wpl_var {Q : Nat → List Stp → Prop} {t : Sh × D} (h : trAt e i = some t) (k : Q i []) : Wpl (plVar i) e Q := ⟨_, _, by simp [plVar, h], k⟩
theorem wpl_sub {pl : Plf} {qf : Qf} {Q : Nat → List Stp → Prop} (h : Wpl pl e fun i π => Wq qf e fun k => ∃ t c s st s', trAt e i = some t ∧ subDP t.2 π = some c ∧ subShP t.1 π = some s ∧ stepOf c k = some st ∧ subSh s st = some s' ∧ Q i (π ++ [st])) : Wpl (plSub pl qf) e Q := by
  obtain ⟨i, π, h1, k, h2, t, c, s, st, s', h3, h4, h5, h6, h7, r⟩ := h
  exact ⟨_, _, by simp [plSub, h1, h2, h3, h4, h5, h6, h7], r⟩
theorem wq_c {Q : D → Prop} (k : Q d) : Wq (qC d) e Q := ⟨_, rfl, k⟩
theorem wq_v {Q : D → Prop} (h : e[i]? = some (.fz d)) (k : Q d) : Wq (qVar i) e Q := ⟨_, by simp [qVar, h], k⟩
theorem wd_appP {pl : Plf} {qf : Qf} (h : Wpl pl e fun i π => Wq qf e fun x => ∃ t ds e', trAt e i = some t ∧ subDP t.2 π = some (.list ds) ∧ subShP t.1 π = some (.ls .fz) ∧ ds.length < 100000 ∧ setTr i t.1 (setDP t.2 π (.list (ds ++ [x]))) e = some e' ∧ Q .none e') : Wd (eAppP pl qf) e Q := by
  obtain ⟨i, π, h1, x, h2, t, ds, e', h3, h4, h5, h6, h7, k⟩ := h
  exact ⟨_, _, by simp [eAppP, h1, h2, h3, h4, h5, h6, h7], k⟩
/-! while -/
/-- a round of a while loop -/
def Rs.wh (I : En → Nat → Prop) (m : Nat) (Q : Rs → Prop) : Rs → Prop
  | .nx e2 => ∃ k, k < m ∧ I e2 k
  | .ct e2 => ∃ k, k < m ∧ I e2 k
  | .bk e2 => Q (.nx e2)
  | r => Q r
theorem rw_nx {I : En → Nat → Prop} {m : Nat} {Q : Rs → Prop} (h : ∃ k, k < m ∧ I e k) : Rs.wh I m Q (.nx e) := h
theorem rw_ct {I : En → Nat → Prop} {m : Nat} {Q : Rs → Prop} (h : ∃ k, k < m ∧ I e k) : Rs.wh I m Q (.ct e) := h
theorem rw_bk {I : En → Nat → Prop} {m : Nat} {Q : Rs → Prop} (h : Q (.nx e)) : Rs.wh I m Q (.bk e) := h
theorem rw_rt {I : En → Nat → Prop} {m : Nat} {Q : Rs → Prop} (h : Q (.rt d e)) : Rs.wh I m Q (.rt d e) := h
theorem rw_rn {I : En → Nat → Prop} {m : Nat} {Q : Rs → Prop} (h : Q (.rn d e)) : Rs.wh I m Q (.rn d e) := h
theorem rw_rm {I : En → Nat → Prop} {m : Nat} {Q : Rs → Prop} (h : Q (.rm s d e)) : Rs.wh I m Q (.rm s d e) := h
theorem and_lenM {ts : List (Sh × D)} {B : Prop} (h : ts.length ≤ 100000) (h2 : (ts.any fun t => decide (t.1 ≠ .fz)) = true) (k : B) : (ts.length ≤ 100000 ∧ (ts.any fun t => decide (t.1 ≠ .fz)) = true) ∧ B := ⟨⟨h, h2⟩, k⟩
theorem while_use {c : Bf} {body : Sf} {Q : Rs → Prop} (I : En → Nat → Prop) : ∀ {fuel n : Nat} {e : En}, I e n → n < fuel →
    (∀ e m, I e m → Wb c e fun b e1 => Wc b (Ws body e1 (Rs.wh I m Q)) (Q (.nx e1))) → Ws (whileD c body fuel) e Q
  | 0, n, e, _, hl, _ => by omega
  | fuel + 1, n, e, hi, hl, h => by
    obtain ⟨b, e1, h1, k⟩ := h e n hi
    cases b with
    | false => exact ⟨_, by simp [whileD, h1], k.2 rfl⟩
    | true =>
      obtain ⟨r, h2, k⟩ := k.1 rfl
      cases r with
      | nx e2 =>
        obtain ⟨m, hm, hi2⟩ := k
        obtain ⟨r2, h3, k3⟩ := while_use I (fuel := fuel) (n := m) hi2 (by omega) h
        exact ⟨r2, by simp [whileD, h1, h2, h3], k3⟩
      | ct e2 =>
        obtain ⟨m, hm, hi2⟩ := k
        obtain ⟨r2, h3, k3⟩ := while_use I (fuel := fuel) (n := m) hi2 (by omega) h
        exact ⟨r2, by simp [whileD, h1, h2, h3], k3⟩
      | bk e2 => exact ⟨_, by simp [whileD, h1, h2], k⟩
      | rt d e2 => exact ⟨_, by simp [whileD, h1, h2], k⟩
      | rn d e2 => exact ⟨_, by simp [whileD, h1, h2], k⟩
      | rm s d e2 => exact ⟨_, by simp [whileD, h1, h2], k⟩
      | xx x e2 => exact ⟨_, by simp [whileD, h1, h2], k⟩
end
theorem we_putO {i : Nat} {d d' x y : D} {e : En} {Q : En → Prop} (h : e[i]? = some (.ow d)) (hg : gPutD y x d = some d') (k : Q (e.set i (.ow d'))) : We (chgAt i (gPutD y x) e) Q := ⟨_, by simp [chgAt, h, hg], k⟩
theorem we_putW {i : Nat} {d d' x y : D} {e : En} {Q : En → Prop} (h : e[i]? = some (.pw d)) (hg : gPutD y x d = some d') (k : Q (e.set i (.pw d'))) : We (chgAt i (gPutD y x) e) Q := ⟨_, by simp [chgAt, h, hg], k⟩
theorem we_appO {i : Nat} {ds : List D} {x : D} {e : En} {Q : En → Prop} (h : e[i]? = some (.ow (.list ds))) (hl : ds.length < 100000) (k : Q (e.set i (.ow (.list (ds ++ [x]))))) : We (chgAt i (gAppend [x]) e) Q := ⟨_, by simp [chgAt, h, gAppend, hl], k⟩
theorem we_appW {i : Nat} {ds : List D} {x : D} {e : En} {Q : En → Prop} (h : e[i]? = some (.pw (.list ds))) (hl : ds.length < 100000) (k : Q (e.set i (.pw (.list (ds ++ [x]))))) : We (chgAt i (gAppend [x]) e) Q := ⟨_, by simp [chgAt, h, gAppend, hl], k⟩
theorem star2 {f : D} {gs : List D} {e : En} {i j : Nat} {Q : En → Prop} (hl : gs.length < 16384) (h1 : mayPut e[i]? = true) (h2 : mayPut (e.set i (.fz f))[j]? = true) (k : Q ((e.set i (.fz f)).set j (.fz (.list gs)))) : We (tgStar 2 1 (tgsCons (tgName i) (tgsCons (tgName j) tgsNil)) (.tuple (f :: gs)) e) Q := by
  refine ⟨_, ?_, k⟩
  have a : (1 : Nat) < 2 ∧ 2 ≤ (f :: gs).length + 1 ∧ (f :: gs).length ≤ 16384 := ⟨by decide, by simp, by simp; omega⟩
  have b : (f :: gs).length + 1 - 2 = gs.length := by simp
  unfold tgStar
  simp only [a, and_self, if_true, b]
  simp [tgsCons, tgName, tgsNil, put, h1, h2]
/-! dicts with whole keys -/
theorem find_plain {es : List (D × D)} {ks : List Int} (h : keyI es = some ks) : plainTy (.dict es) = true := keyI_plain h
theorem plain_cases {es : List (D × D)} {P : List (D × D) → Prop} (h : plainTy (.dict es) = true) (h0 : P []) (h1 : ∀ i v r, P ((.int i, v) :: r)) (h2 : ∀ x v r, P ((.str x, v) :: r)) : P es := by
  match es, h with
  | [], _ => exact h0
  | (.int i, v) :: r, _ => exact h1 i v r
  | (.str x, v) :: r, _ => exact h2 x v r
theorem dget_int {es : List (D × D)} {i : Int} (h : plainTy (.dict es) = true) : dGet (.dict es) (.int i) = some (findK es (.inl i)) :=
  plain_cases (P := fun es => dGet (.dict es) (.int i) = some (findK es (.inl i))) h rfl (fun _ _ _ => rfl) (fun _ _ _ => rfl)
theorem in_int {es : List (D × D)} {i : Int} (h : plainTy (.dict es) = true) : gIn (.int i) (.dict es) = some (.bool (findK es (.inl i)).isSome) := by
  simp [gIn, gInn, dget_int h]
theorem nin_int {es : List (D × D)} {i : Int} (h : plainTy (.dict es) = true) : gNotIn (.int i) (.dict es) = some (.bool (!(findK es (.inl i)).isSome)) := by
  simp [gNotIn, gInn, dget_int h]
theorem ixs_int {es : List (D × D)} {i : Int} {d : D} (h : plainTy (.dict es) = true) (hf : findK es (.inl i) = some d) : gIxs (.dict es) (.int i) = some d := by
  have e : gIx (.dict es) (.int i) = none := plain_cases (P := fun es => gIx (.dict es) (.int i) = none) h rfl (fun _ _ _ => rfl) (fun _ _ _ => rfl)
  simp [gIxs, e, gIxD, dget_int h, hf]
theorem isDc_plain {es : List (D × D)} (h : plainTy (.dict es) = true) : isDc (.dict es) = true :=
  plain_cases (P := fun es => isDc (.dict es) = true) h rfl (fun _ _ _ => rfl) (fun _ _ _ => rfl)
theorem putD_plain {es : List (D × D)} {i : Int} {x : D} (h : plainTy (.dict es) = true) (hl : es.length < 100000) : gPutD (.int i) x (.dict es) = some (.dict (putD es (.inl i) x)) := by
  have : ∀ es : List (D × D), plainTy (.dict es) = true → gPutD (.int i) x (.dict es) = if plainTy (.dict es) = true ∧ es.length < 100000 then some (.dict (putD es (.inl i) x)) else none := fun es h =>
    plain_cases (P := fun es => gPutD (.int i) x (.dict es) = if plainTy (.dict es) = true ∧ es.length < 100000 then some (.dict (putD es (.inl i) x)) else none) h rfl (fun _ _ _ => rfl) (fun _ _ _ => rfl)
  rw [this es h, if_pos ⟨h, hl⟩]
end DL

/-! DY: small data with dicts of whole keys in it: they can be shown. -/
namespace DL
open PySem L2
def lwK : D → Bool
  | .int i => decide (i.natAbs < 10 ^ 60)
  | _ => false
def lw (n : Nat) : Nat → D → Bool
  | _, .none => true
  | _, .bool _ => true
  | _, .int i => decide (i.natAbs < 10 ^ 60)
  | _, .str x => decide ((PyData.shown (.str x)).length ≤ 70)
  | k + 1, .tuple xs => decide (xs.length ≤ n) && xs.all (lw n k)
  | k + 1, .dict es => decide (es.length ≤ n) && es.all fun e => lwK e.1 && lw n k e.2
  | _, _ => false
def lwL (n : Nat) : Nat → Nat
  | 0 => 70
  | k + 1 => n * (lwL n k + 80) + 80
structure LwOk (n k : Nat) (d : D) : Prop where
  scr : noScr d = true
  sho : d.showable = true
  nol : noLst d = true
  dep : d.depth ≤ k
  len : d.shown.length ≤ lwL n k
theorem lwL_ge (n : Nat) : ∀ k : Nat, 70 ≤ lwL n k
  | 0 => Nat.le_refl _
  | k + 1 => by unfold lwL; omega
structure LwAll (n k : Nat) (ds : List D) : Prop where
  scr : noScrs ds = true
  sho : PyData.showableAll ds = true
  nol : noLsts ds = true
  dep : PyData.depthAll ds ≤ k
  len : ((PyData.shownAll ds).map (·.length)).sum + 2 * ds.length ≤ ds.length * (lwL n k + 80)
theorem LwAll.of {n k : Nat} : ∀ {ds : List D}, (∀ d ∈ ds, LwOk n k d) → LwAll n k ds
  | [], _ => ⟨rfl, rfl, rfl, Nat.zero_le _, by simp [PyData.shownAll]⟩
  | d :: ds, h => by
    have a := h d List.mem_cons_self
    have b := LwAll.of (n := n) (k := k) (ds := ds) fun x hx => h x (List.mem_cons_of_mem _ hx)
    refine ⟨by simp [noScrs, a.scr, b.scr], by simp [PyData.showableAll, a.sho, b.sho], by simp [noLsts, a.nol, b.nol], Nat.max_le.mpr ⟨a.dep, b.dep⟩, ?_⟩
    have h1 := a.len
    have h2 := b.len
    simp only [PyData.shownAll, List.map_cons, List.sum_cons, List.length_cons, Nat.add_mul] at h2 ⊢
    omega
structure LwKv (n k : Nat) (es : List (D × D)) : Prop where
  scr : noScrK es = true
  sho : PyData.showableKv es = true
  nol : noLstK es = true
  dep : PyData.depthKv es ≤ k
  len : ((PyData.shownKv es).map (·.length)).sum + 2 * es.length ≤ es.length * (lwL n k + 80)
theorem shownKv_length : ∀ es : List (D × D), (PyData.shownKv es).length = es.length
  | [] => rfl
  | (_, _) :: r => congrArg Nat.succ (shownKv_length r)
theorem LwKv.of {n k : Nat} : ∀ {es : List (D × D)}, (∀ e ∈ es, lwK e.1 = true ∧ LwOk n k e.2) → LwKv n k es
  | [], _ => ⟨rfl, rfl, rfl, Nat.zero_le _, by simp [PyData.shownKv]⟩
  | (x, d) :: ds, h => by
    obtain ⟨hk, a0⟩ := h (x, d) List.mem_cons_self
    have a : LwOk n k d := a0
    clear a0
    have b := LwKv.of (n := n) (k := k) (es := ds) fun x hx => h x (List.mem_cons_of_mem _ hx)
    cases x <;> try (cases hk; done)
    rename_i i
    have hi : i.natAbs < 10 ^ 60 := by simpa [lwK] using hk
    refine ⟨by simp [noScrK, a.scr, b.scr], ?_, by simp [noLstK, a.nol, b.nol], ?_, ?_⟩
    · simp [PyData.showableKv, a.sho, b.sho, PyData.showable, log62 hi]
    · have := a.dep
      have := b.dep
      simp only [PyData.depthKv, PyData.depth]
      omega
    · have h1 := a.len
      have h2 := b.len
      have h3 := big62 hi
      simp only [PyData.shownKv, List.map_cons, List.sum_cons, List.length_cons, Nat.add_mul, strLen_append] at h2 ⊢
      have h4 : (": " : Str).length = 2 := by decide
      omega
theorem lw_ok (n : Nat) : ∀ (k : Nat) (d : D), lw n k d = true → LwOk n k d
  | k, .none, _ => ⟨rfl, rfl, rfl, Nat.zero_le _, Nat.le_trans (by decide) (lwL_ge n k)⟩
  | k, .bool b, _ => ⟨rfl, rfl, rfl, Nat.zero_le _, Nat.le_trans (by cases b <;> decide) (lwL_ge n k)⟩
  | k, .int i, h => by
    have h : i.natAbs < 10 ^ 60 := by cases k <;> simpa [lw] using h
    exact ⟨rfl, by simpa [PyData.showable] using log62 h, rfl, Nat.zero_le _, Nat.le_trans (big62 h) (Nat.le_trans (by decide) (lwL_ge n k))⟩
  | k, .str x, h => by
    have h : (PyData.shown (.str x)).length ≤ 70 := by cases k <;> simpa [lw] using h
    exact ⟨rfl, rfl, rfl, Nat.zero_le _, Nat.le_trans h (lwL_ge n k)⟩
  | 0, .list xs, h => by simp [lw] at h
  | 0, .tuple xs, h => by simp [lw] at h
  | 0, .dict xs, h => by simp [lw] at h
  | k + 1, .list xs, h => by simp [lw] at h
  | k + 1, .tuple xs, h => by
    simp only [lw, Bool.and_eq_true, decide_eq_true_eq, List.all_eq_true] at h
    have a := LwAll.of (n := n) (k := k) fun d hd => lw_ok n k d (h.2 d hd)
    refine ⟨by simp [noScr, a.scr], by simp [PyData.showable, a.sho], by simp [noLst, a.nol], Nat.succ_le_succ a.dep, ?_⟩
    have h1 := tupleText_len_le (PyData.shownAll xs)
    have h2 := PyData.shownAll_length xs
    have h3 := a.len
    have h4 : xs.length * (lwL n k + 80) ≤ n * (lwL n k + 80) := Nat.mul_le_mul_right _ h.1
    simp only [PyData.shown, lwL]
    omega
  | k + 1, .dict es, h => by
    simp only [lw, Bool.and_eq_true, decide_eq_true_eq, List.all_eq_true] at h
    have a := LwKv.of (n := n) (k := k) (es := es) fun e he => ⟨(h.2 e he).1, lw_ok n k e.2 (h.2 e he).2⟩
    refine ⟨by simp [noScr, a.scr], by simp [PyData.showable, a.sho], by simp [noLst, a.nol], Nat.succ_le_succ a.dep, ?_⟩
    have h1 := dictText_len_le (PyData.shownKv es)
    have h2 := shownKv_length es
    have h3 := a.len
    have h4 : es.length * (lwL n k + 80) ≤ n * (lwL n k + 80) := Nat.mul_le_mul_right _ h.1
    simp only [PyData.shown, lwL]
    omega
theorem LwOk.repr {n k : Nat} {d : D} (h : LwOk n k d) (hk : k ≤ 60) (hl : lwL n k ≤ 16000000) : gRepr d = some (.str d.shown) := by
  have e : reprOk d = true := by
    have := h.dep
    have := h.len
    simp [reprOk, h.scr, h.sho, h.nol]
    omega
  simp [gRepr, e]
end DL

namespace TT
open PySem L2 DL
/-- tables, by what they lead to -/
structure Tab (d : D) (nx : Int → Int → Option (List Int)) : Prop where
  ex : ∃ es, d = .dict es ∧ plainTy (.dict es) = true ∧ ∀ h : Int, (findK es (.inl h) = none ∧ ∀ t, nx h t = none) ∨ ∃ rows, findK es (.inl h) = some (.dict rows) ∧ plainTy (.dict rows) = true ∧ ∀ t : Int, (findK rows (.inl t) = none ∧ nx h t = none) ∨ ∃ (s : Int) (fs : List Int), findK rows (.inl t) = some (.tuple [.int s, .tuple (fs.map .int)]) ∧ nx h t = some fs
  bd : ∀ h t fs, nx h t = some fs → fs.length ≤ 8 ∧ ∀ f ∈ fs, 0 ≤ f ∧ f < 8
def ys (way : List Int) (i : Int) : Nat := if i ∈ way then 0 else 1
def free (way : List Int) : Nat := ys way 0 + ys way 1 + ys way 2 + ys way 3 + ys way 4 + ys way 5 + ys way 6 + ys way 7
theorem ys_le (way : List Int) (i : Int) : ys way i ≤ 1 := by unfold ys; split <;> omega
theorem free_le (way : List Int) : free way ≤ 8 := by
  have := ys_le way
  unfold free
  have a0 := this 0; have a1 := this 1; have a2 := this 2; have a3 := this 3; have a4 := this 4; have a5 := this 5; have a6 := this 6; have a7 := this 7
  omega
theorem ys_snoc (way : List Int) (f i : Int) : ys (way ++ [f]) i ≤ ys way i ∧ (f = i → f ∉ way → ys (way ++ [f]) i + 1 ≤ ys way i) := by
  unfold ys
  constructor
  · by_cases h : i ∈ way
    · simp [h]
    · simp only [h, if_false]; split <;> omega
  · rintro rfl h
    simp [h]
theorem free_snoc {way : List Int} {f : Int} (h : f ∉ way) (h0 : 0 ≤ f) (h1 : f < 8) : free (way ++ [f]) + 1 ≤ free way := by
  have s := ys_snoc way f
  unfold free
  have a0 := (s 0).1; have a1 := (s 1).1; have a2 := (s 2).1; have a3 := (s 3).1; have a4 := (s 4).1; have a5 := (s 5).1; have a6 := (s 6).1; have a7 := (s 7).1
  have hc : f = 0 ∨ f = 1 ∨ f = 2 ∨ f = 3 ∨ f = 4 ∨ f = 5 ∨ f = 6 ∨ f = 7 := by omega
  rcases hc with e | e | e | e | e | e | e | e
  · have := (s 0).2 e h; omega
  · have := (s 1).2 e h; omega
  · have := (s 2).2 e h; omega
  · have := (s 3).2 e h; omega
  · have := (s 4).2 e h; omega
  · have := (s 5).2 e h; omega
  · have := (s 6).2 e h; omega
  · have := (s 7).2 e h; omega
def lastI (way : List Int) : Int := way.getLastD 0
theorem last_ix {way : List Int} (h : way ≠ []) : gIxs (.list (way.map .int)) (.int (-1)) = some (.int (lastI way)) := by
  refine ixs_of ?_
  show atI (way.map PyData.int) (-1) = _
  obtain ⟨w, x, rfl⟩ : ∃ w x, way = w ++ [x] := ⟨way.dropLast, way.getLast h, (List.dropLast_concat_getLast h).symm⟩
  have e : ixN ((w ++ [x]).map PyData.int).length (-1) = some w.length := by
    unfold ixN
    simp only [List.length_map, List.length_append, List.length_singleton]
    rw [if_neg (by omega), if_pos (by omega)]
    congr 1
    omega
  have e' : ixN (w.length + 1) (-1) = some w.length := by simpa using e
  simp [atI, e', lastI]
theorem shaped_ints (way : List Int) (h : way.length ≤ 20) (hb : ∀ f ∈ way, 0 ≤ f ∧ f < 8) : lv 20 1 (.list (way.map .int)) = true := by
  refine lv_l (by simpa using h) fun x hx => ?_
  obtain ⟨f, hf, rfl⟩ := List.mem_map.mp hx
  exact lv_i (by have := hb f hf; omega) 0
theorem any_int (f : Int) (way : List Int) : ((way.map PyData.int).any fun z => PyData.eqv z (.int f)) = decide (f ∈ way) := by
  induction way with
  | nil => rfl
  | cons a r ih =>
    simp only [List.map_cons, List.any_cons, ih]
    by_cases h : a = f
    · subst h; simp [PyData.eqv]
    · have : ¬ f = a := fun z => h z.symm
      simp [PyData.eqv, h, this]
theorem in_list {f : Int} {way : List Int} (h : way.length ≤ 20) (hb : ∀ f ∈ way, 0 ≤ f ∧ f < 8) : gIn (.int f) (.list (way.map .int)) = some (.bool (decide (f ∈ way))) := by
  have l := lv_ok 20 1 _ (shaped_ints way h hb)
  have s := l.shaped (by decide)
  have n := l.nd
  simp [noDct] at n
  simp only [gIn, gInn]
  rw [any_int]
  simp [noDct, shaped_int, s, n]
theorem eq_tup {xs : List Int} (h : xs.length ≤ 20) (hb : ∀ f ∈ xs, 0 ≤ f ∧ f < 8) : gEq (.tuple (xs.map .int)) (.tuple []) = some (.bool xs.isEmpty) := by
  have l : lv 20 1 (.tuple (xs.map .int)) = true := lv_t (by simpa using h) fun x hx => by
    obtain ⟨f, hf, rfl⟩ := List.mem_map.mp hx
    exact lv_i (by have := hb f hf; omega) 0
  rw [(lv_ok 20 1 _ l).eq (lv_ok 1 1 (.tuple []) rfl) (by decide) (by decide)]
  cases xs <;> rfl
theorem cut_but {way : List D} {x : D} : cutD (way ++ [x]) none (some (-1)) = way := by
  unfold cutD
  have e : HT.sIx (way ++ [x]).length (way ++ [x]).length (some (-1)) = way.length := by
    unfold HT.sIx
    simp
    try omega
  rw [HT.sIx_none, e]
  simp
theorem idx_int (f : Int) : ∀ way : List Int, idxOf (way.map .int) (.int f) = way.findIdx? fun z => decide (z = f)
  | [] => rfl
  | a :: r => by
    have ih := idx_int f r
    unfold idxOf at ih ⊢
    simp only [List.map_cons, List.findIdx?_cons, ih]
    by_cases h : a = f
    · subst h; simp [PyData.eqv]
    · simp [PyData.eqv, h]
theorem idx_snoc {f : Int} : ∀ {way : List Int}, ∃ j, (way ++ [f]).findIdx? (fun z => decide (z = f)) = some j ∧ (j < way.length ↔ f ∈ way) ∧ j ≤ way.length
  | [] => ⟨0, by simp, by simp, by simp⟩
  | a :: r => by
    obtain ⟨j, h1, h2, h3⟩ := idx_snoc (f := f) (way := r)
    by_cases h : a = f
    · subst h
      exact ⟨0, by simp [List.findIdx?_cons], by simp, by simp⟩
    · refine ⟨j + 1, ?_, ?_, ?_⟩
      · simp only [List.cons_append, List.findIdx?_cons, h1]
        simp [h]
      · have : ¬ f = a := fun z => h z.symm
        simp only [List.length_cons, List.mem_cons, this, false_or]
        exact ⟨fun z => h2.mp (by omega), fun z => by have := h2.mpr z; omega⟩
      · simp only [List.length_cons]; omega
abbrev MP (s : Sv) : Prop := mayPut (some s) = true
abbrev scrD (ns : List Int) : D := .dict [(.none, .list (ns.map .int))]
abbrev Rwt := Int × (Int × List Int)
def rowD (r : Int × List Int) : D := .tuple [.int r.1, .tuple (r.2.map .int)]
def rowE (r : Rwt) : D × D := (.int r.1, rowD r.2)
def rowsD (rows : List Rwt) : D := .dict (rows.map rowE)
def tabE (r : Int × List Rwt) : D × D := (.int r.1, rowsD r.2)
def tabD (T : List (Int × List Rwt)) : D := .dict (T.map tabE)
def RowOk (r : Rwt) : Prop := (0 ≤ r.1 ∧ r.1 < 8) ∧ (0 ≤ r.2.1 ∧ r.2.1 ≤ 100) ∧ r.2.2.length ≤ 8 ∧ ∀ f ∈ r.2.2, 0 ≤ f ∧ f < 8
structure RowsOk (rows : List Rwt) : Prop where
  nd : (rows.map (·.1)).Nodup
  len : rows.length ≤ 9
  ok : ∀ r ∈ rows, RowOk r
structure TabOk (T : List (Int × List Rwt)) : Prop where
  nd : (T.map (·.1)).Nodup
  len : T.length ≤ 8
  ok : ∀ r ∈ T, (0 ≤ r.1 ∧ r.1 < 8) ∧ RowsOk r.2
def look {α : Type} (l : List (Int × α)) (k : Int) : Option α := (l.find? fun r => decide (r.1 = k)).map (·.2)
def nxOf (T : List (Int × List Rwt)) (h t : Int) : Option (List Int) := (look T h).bind fun rows => (look rows t).map (·.2)
theorem find_map {α : Type} (g : α → D) (k : Int) : ∀ l : List (Int × α), findK (l.map fun r => (PyData.int r.1, g r.2)) (.inl k) = (look l k).map g
  | [] => rfl
  | r :: l => by
    have ih := find_map g k l
    unfold findK look at ih ⊢
    simp only [List.map_cons, List.find?_cons]
    by_cases h : r.1 = k
    · simp [keyD, h]
    · have : ¬ (Sum.inl r.1 : Key) = .inl k := fun z => h (Sum.inl.inj z)
      simp only [keyD, Option.some.injEq, this, h, decide_false]
      exact ih
theorem find_rows (rows : List Rwt) (t : Int) : findK (rows.map rowE) (.inl t) = (look rows t).map rowD := find_map rowD t rows
theorem find_tab (T : List (Int × List Rwt)) (h : Int) : findK (T.map tabE) (.inl h) = (look T h).map rowsD := find_map rowsD h T
theorem plain_int {α : Type} (g : α → D) (l : List (Int × α)) : plainTy (.dict (l.map fun r => (PyData.int r.1, g r.2))) = true := by cases l <;> rfl
theorem plain_rows (rows : List Rwt) : plainTy (.dict (rows.map rowE)) = true := plain_int rowD rows
theorem plain_tab (T : List (Int × List Rwt)) : plainTy (.dict (T.map tabE)) = true := plain_int rowsD T
theorem look_mem {α : Type} {l : List (Int × α)} {k : Int} {x : α} (h : look l k = some x) : (k, x) ∈ l := by
  unfold look at h
  obtain ⟨r, h1, h2⟩ := Option.map_eq_some_iff.mp h
  have h3 := List.mem_of_find?_eq_some h1
  have h4 : r.1 = k := by simpa using List.find?_some h1
  subst h2; subst h4
  exact h3
theorem tab_of {T : List (Int × List Rwt)} (h : TabOk T) : Tab (tabD T) (nxOf T) := by
  refine ⟨⟨_, rfl, plain_tab T, fun x => ?_⟩, fun x t fs e => ?_⟩
  · rw [find_tab]
    cases q : look T x with
    | none => exact .inl ⟨rfl, fun t => by simp [nxOf, q]⟩
    | some rows =>
      refine .inr ⟨rows.map rowE, rfl, plain_rows rows, fun t => ?_⟩
      rw [find_rows]
      cases q2 : look rows t with
      | none => exact .inl ⟨rfl, by simp [nxOf, q, q2]⟩
      | some r => exact .inr ⟨r.1, r.2, rfl, by simp [nxOf, q, q2]⟩
  · unfold nxOf at e
    obtain ⟨rows, e1, e2⟩ := bd e
    obtain ⟨r, e3, rfl⟩ := Option.map_eq_some_iff.mp e2
    have := ((h.ok _ (look_mem e1)).2.ok _ (look_mem e3)).2.2
    exact this
theorem put_new {α : Type} (g : α → D) {l : List (Int × α)} {k : Int} {x : α} (h : k ∉ l.map (·.1)) : putD (l.map fun r => (PyData.int r.1, g r.2)) (.inl k) (g x) = (l ++ [(k, x)]).map fun r => (PyData.int r.1, g r.2) := by
  have : ((l.map fun r => (PyData.int r.1, g r.2)).any fun e => decide (keyD e.1 = some (.inl k))) = false := by
    rw [List.any_eq_false]
    intro e he
    obtain ⟨r, hr, rfl⟩ := List.mem_map.mp he
    have : r.1 ≠ k := fun z => h (List.mem_map.mpr ⟨r, hr, z⟩)
    simp [keyD, this]
  unfold putD
  rw [this]
  simp [kD]
theorem put_row {rows : List Rwt} {k : Int} {x : Int × List Int} (h : k ∉ rows.map (·.1)) : putD (rows.map rowE) (.inl k) (rowD x) = (rows ++ [(k, x)]).map rowE := put_new rowD h
theorem put_tab {T : List (Int × List Rwt)} {k : Int} {x : List Rwt} (h : k ∉ T.map (·.1)) : putD (T.map tabE) (.inl k) (rowsD x) = (T ++ [(k, x)]).map tabE := put_new rowsD h
/-- a loop, by what was gone through -/
theorem for_ix {t : Tg} {body : Sf} {Q : Rs → Prop} (I : Nat → En → Prop) : ∀ {ds : List D} {k : Nat} {e : En}, I k e → (∀ j x e, ds[j]? = some x → I (k + j) e → We (t x e) fun e1 => Ws body e1 (Rs.on (I (k + j + 1)))) → (∀ e, I (k + ds.length) e → Q (.nx e)) → ∃ r, forD t body ds e = some r ∧ Q r
  | [], k, e, i, _, q => ⟨_, rfl, q e i⟩
  | x :: ds, k, e, i, h, q => by
    obtain ⟨e1, h1, r, h2, kk⟩ := h 0 x e rfl i
    have hr : ∀ j y e, ds[j]? = some y → I (k + 1 + j) e → We (t y e) fun e1 => Ws body e1 (Rs.on (I (k + 1 + j + 1))) := fun j y e hj hi => by
      have := h (j + 1) y e (by simpa using hj) (by rw [show k + (j + 1) = k + 1 + j by omega]; exact hi)
      rw [show k + (j + 1) + 1 = k + 1 + j + 1 by omega] at this
      exact this
    have hq : ∀ e, I (k + 1 + ds.length) e → Q (.nx e) := fun e hi => q e (by rw [show k + (x :: ds).length = k + 1 + ds.length by simp; omega]; exact hi)
    cases r with
    | nx e2 =>
      obtain ⟨r', h3, q'⟩ := for_ix I (k := k + 1) (e := e2) kk hr hq
      exact ⟨r', by simp [forD, h1, h2, h3], q'⟩
    | ct e2 =>
      obtain ⟨r', h3, q'⟩ := for_ix I (k := k + 1) (e := e2) kk hr hq
      exact ⟨r', by simp [forD, h1, h2, h3], q'⟩
    | _ => exact kk.elim
theorem rng_at {n j : Nat} {x : D} (h : (rng 0 n)[j]? = some x) : j < n ∧ x = .int j := by
  obtain ⟨a, b⟩ := rng_get h
  exact ⟨a, by rw [b]; simp⟩
theorem ints_all : ∀ {zs : List D}, (∀ z ∈ zs, ∃ f : Int, z = .int f ∧ 0 ≤ f ∧ f < 8) → ∃ fs : List Int, zs = fs.map .int ∧ ∀ f ∈ fs, 0 ≤ f ∧ f < 8
  | [], _ => ⟨[], rfl, by simp⟩
  | z :: zs, h => by
    obtain ⟨f, rfl, h0, h1⟩ := h z List.mem_cons_self
    obtain ⟨fs, rfl, hf⟩ := ints_all fun y hy => h y (List.mem_cons_of_mem _ hy)
    refine ⟨f :: fs, rfl, fun g hg => ?_⟩
    rcases List.mem_cons.mp hg with rfl | hg
    · exact ⟨h0, h1⟩
    · exact hf g hg
theorem ne_tup {xs : List Int} (h : xs.length ≤ 20) (hb : ∀ f ∈ xs, 0 ≤ f ∧ f < 8) : gNe (.tuple (xs.map .int)) (.tuple []) = some (.bool (!xs.isEmpty)) := by
  have l : lv 20 1 (.tuple (xs.map .int)) = true := lv_t (by simpa using h) fun x hx => by
    obtain ⟨f, hf, rfl⟩ := List.mem_map.mp hx
    exact lv_i (by have := hb f hf; omega) 0
  rw [(lv_ok 20 1 _ l).ne (lv_ok 1 1 (.tuple []) rfl) (by decide) (by decide)]
  cases xs <;> rfl
theorem perm_map {α β : Type} {f : α → β} {l k : List β} (h : l.Perm k) : ∀ {m : List α}, k = m.map f → ∃ m' : List α, m'.Perm m ∧ l = m'.map f := by
  induction h with
  | nil => intro m e; exact ⟨m, List.Perm.refl _, e⟩
  | cons x _ ih =>
    intro m e
    cases m with
    | nil => cases e
    | cons a r =>
      injection e with e1 e2
      obtain ⟨m', p, rfl⟩ := ih e2
      exact ⟨a :: m', p.cons a, by rw [e1]; rfl⟩
  | swap x y l =>
    intro m e
    match m, e with
    | a :: b :: r, e =>
      injection e with e1 e2
      injection e2 with e2 e3
      exact ⟨b :: a :: r, List.Perm.swap _ _ _, by rw [e1, e2, e3]; rfl⟩
  | trans _ _ ih1 ih2 =>
    intro m e
    obtain ⟨m1, p1, e1⟩ := ih2 e
    obtain ⟨m2, p2, e2⟩ := ih1 e1
    exact ⟨m2, p2.trans p1, e2⟩
theorem look_iff {α : Type} {k : Int} {x : α} : ∀ {l : List (Int × α)}, (l.map (·.1)).Nodup → (look l k = some x ↔ (k, x) ∈ l)
  | [], _ => by simp [look]
  | r :: l, h => by
    obtain ⟨h1, h2⟩ := List.nodup_cons.mp h
    have ih := look_iff (k := k) (x := x) h2
    unfold look at ih ⊢
    by_cases e : r.1 = k
    · simp only [List.find?_cons, e, decide_true, Option.map_some, Option.some.injEq, List.mem_cons]
      constructor
      · intro z; left; subst e; subst z; rfl
      · rintro (z | z)
        · rw [← z]
        · exact absurd (List.mem_map.mpr ⟨_, z, e.symm⟩) h1
    · simp only [List.find?_cons, e, decide_false, List.mem_cons]
      rw [ih]
      constructor
      · exact .inr
      · rintro (z | z)
        · exact absurd (by rw [← z]) e
        · exact z
theorem keyI_map {α : Type} (g : α → D) : ∀ l : List (Int × α), keyI (l.map fun r => (PyData.int r.1, g r.2)) = some (l.map (·.1))
  | [] => rfl
  | r :: l => by simp [keyI, keyI_map g l]
theorem pairs_map {α : Type} (g : α → D) : ∀ l : List (Int × α), pairsOf (l.map fun r => .tuple [.int r.1, g r.2]) = some (l.map fun r => (.inl r.1, g r.2))
  | [] => rfl
  | r :: l => by simp [pairsOf, keyD, pairs_map g l]
theorem merge_map {α : Type} (g : α → D) : ∀ {l l0 : List (Int × α)}, ((l0 ++ l).map (·.1)).Nodup → mergeD (l0.map fun r => (PyData.int r.1, g r.2)) (l.map fun r => (.inl r.1, g r.2)) = (l0 ++ l).map fun r => (PyData.int r.1, g r.2)
  | [], l0, _ => by simp [mergeD]
  | r :: l, l0, h => by
    have hn : r.1 ∉ l0.map (·.1) := by
      rw [List.map_append] at h
      intro z
      exact (List.nodup_append.mp h).2.2 _ z r.1 (by simp) rfl
    have e := put_new g (x := r.2) hn
    have ih := merge_map g (l := l) (l0 := l0 ++ [(r.1, r.2)]) (by simpa using h)
    unfold mergeD at ih ⊢
    rw [List.map_cons, List.foldl_cons]
    dsimp only
    rw [e, ih]
    simp
theorem dict_of {α : Type} (g : α → D) {l : List (Int × α)} (h : (l.map (·.1)).Nodup) : gDictOf [.list (l.map fun r => .tuple [.int r.1, g r.2])] = some (.dict (l.map fun r => (PyData.int r.1, g r.2))) := by
  have := merge_map g (l := l) (l0 := []) (by simpa using h)
  simp only [gDictOf, pairs_map, Option.bind_some]
  rw [show ([] : List (D × D)) = ([] : List (Int × α)).map fun r => (PyData.int r.1, g r.2) from rfl, this]
  rfl
theorem s_items {rows : List Rwt} (h : (rows.map (·.1)).Nodup) : ∃ rows' : List Rwt, rows'.Perm rows ∧ gSItems (rowsD rows) = some (.list (rows'.map fun r => .tuple [.int r.1, rowD r.2])) := by
  obtain ⟨rows', p, e⟩ := perm_map (f := rowE) (sortE_perm (rows.map rowE)) rfl
  refine ⟨rows', p, ?_⟩
  have hk : keyI (rows.map rowE) = some (rows.map (·.1)) := keyI_map rowD rows
  unfold rowsD gSItems
  simp only [hk, Option.bind_some, h, if_true, e]
  simp [List.map_map, Function.comp_def, DL.prD, rowE]
theorem nodup_perm {α : Type} {l l' : List (Int × α)} (p : l'.Perm l) (h : (l.map (·.1)).Nodup) : (l'.map (·.1)).Nodup := (p.map (·.1)).nodup_iff.mpr h
theorem s_rows {rows : List Rwt} (h : (rows.map (·.1)).Nodup) : ∃ rows' : List Rwt, rows'.Perm rows ∧ ∃ a b, gSItems (rowsD rows) = some a ∧ gRev a = some b ∧ gDictOf [b] = some (rowsD rows') := by
  obtain ⟨r1, p, e⟩ := s_items h
  refine ⟨r1.reverse, (List.reverse_perm _).trans p, _, _, e, rfl, ?_⟩
  rw [← List.map_reverse]
  exact dict_of rowD (nodup_perm ((List.reverse_perm _).trans p) h)
/-- the tables turned about: the same rows -/
structure Turn (T T' : List (Int × List Rwt)) : Prop where
  ks : (T'.map (·.1)).Perm (T.map (·.1))
  rw : ∀ r ∈ T', ∃ rows, (r.1, rows) ∈ T ∧ r.2.Perm rows
theorem Turn.ok {T T' : List (Int × List Rwt)} (t : Turn T T') (h : TabOk T) : TabOk T' := by
  refine ⟨t.ks.nodup_iff.mpr h.nd, ?_, fun r hr => ?_⟩
  · have := t.ks.length_eq
    simp at this
    have := h.len
    omega
  · obtain ⟨rows, h1, h2⟩ := t.rw r hr
    obtain ⟨a, b⟩ := h.ok _ h1
    exact ⟨a, nodup_perm h2 b.nd, by rw [h2.length_eq]; exact b.len, fun x hx => b.ok x (h2.mem_iff.mp hx)⟩
theorem nx_iff {T : List (Int × List Rwt)} (h : TabOk T) {x t : Int} {fs : List Int} : nxOf T x t = some fs ↔ ∃ rows s, (x, rows) ∈ T ∧ (t, (s, fs)) ∈ rows := by
  unfold nxOf
  rw [Option.bind_eq_some_iff]
  constructor
  · rintro ⟨rows, h1, h2⟩
    obtain ⟨⟨s, fs'⟩, h3, rfl⟩ := Option.map_eq_some_iff.mp h2
    have m1 := look_mem h1
    exact ⟨rows, s, m1, look_mem h3⟩
  · rintro ⟨rows, s, h1, h2⟩
    refine ⟨rows, (look_iff h.nd).mpr h1, ?_⟩
    rw [(look_iff (h.ok _ h1).2.nd).mpr h2]
    rfl
theorem Turn.nx {T T' : List (Int × List Rwt)} (t : Turn T T') (h : TabOk T) : nxOf T' = nxOf T := by
  funext x y
  have h' := t.ok h
  apply Option.ext
  intro fs
  rw [nx_iff h', nx_iff h]
  constructor
  · rintro ⟨rows, s, h1, h2⟩
    obtain ⟨rows', h3, h4⟩ := t.rw _ h1
    exact ⟨rows', s, h3, h4.mem_iff.mp h2⟩
  · rintro ⟨rows, s, h1, h2⟩
    have hx : x ∈ T'.map (·.1) := t.ks.mem_iff.mpr (List.mem_map.mpr ⟨_, h1, rfl⟩)
    obtain ⟨⟨x', rows'⟩, h3, rfl⟩ := List.mem_map.mp hx
    obtain ⟨rows2, h4, h5⟩ := t.rw _ h3
    have e : some rows = some rows2 := by
      rw [← (look_iff h.nd).mpr h1, ← (look_iff h.nd).mpr h4]
    cases e
    exact ⟨rows', s, h3, h5.mem_iff.mpr h2⟩
def val (T : List (Int × List Rwt)) (x : D) : D := ((gIxs (tabD T) x).bind fun a => (gSItems a).bind fun b => (gRev b).bind fun c => gDictOf [c]).getD .none
theorem val_at {T : List (Int × List Rwt)} (h : TabOk T) {x : Int} (hx : x ∈ T.map (·.1)) : ∃ rows rows' a b, (x, rows) ∈ T ∧ rows'.Perm rows ∧ gIxs (tabD T) (.int x) = some (rowsD rows) ∧ gSItems (rowsD rows) = some a ∧ gRev a = some b ∧ gDictOf [b] = some (rowsD rows') ∧ val T (.int x) = rowsD rows' := by
  obtain ⟨⟨x', rows⟩, h1, rfl⟩ := List.mem_map.mp hx
  obtain ⟨rows', p, a, b, e1, e2, e3⟩ := s_rows (h.ok _ h1).2.nd
  have e0 : gIxs (tabD T) (.int x') = some (rowsD rows) := ixs_int (plain_tab T) (by rw [find_tab, (look_iff h.nd).mpr h1]; rfl)
  exact ⟨rows, rows', a, b, h1, p, e0, e1, e2, e3, by simp [val, e0, e1, e2, e3]⟩
theorem val_all {T : List (Int × List Rwt)} (h : TabOk T) : ∀ {ks : List Int}, (∀ k ∈ ks, k ∈ T.map (·.1)) → ∃ T' : List (Int × List Rwt), T'.map (·.1) = ks ∧ (ks.map fun k => PyData.tuple [.int k, val T (.int k)]) = T'.map (fun r => .tuple [.int r.1, rowsD r.2]) ∧ ∀ r ∈ T', ∃ rows, (r.1, rows) ∈ T ∧ r.2.Perm rows
  | [], _ => ⟨[], rfl, rfl, nofun⟩
  | k :: ks, hk => by
    obtain ⟨T', e1, e2, e3⟩ := val_all h (ks := ks) fun x hx => hk x (List.mem_cons_of_mem _ hx)
    obtain ⟨rows, rows', _, _, h1, h2, _, _, _, _, h3⟩ := val_at h (hk k List.mem_cons_self)
    refine ⟨(k, rows') :: T', by simp [e1], by simp [e2, h3], fun r hr => ?_⟩
    rcases List.mem_cons.mp hr with rfl | hr
    · exact ⟨rows, h1, h2⟩
    · exact e3 r hr
mutual
theorem eqv_refl : ∀ d : D, noDct d = true → PyData.eqv d d = true
  | .none, _ => by simp [PyData.eqv]
  | .bool _, _ => by simp [PyData.eqv]
  | .int _, _ => by simp [PyData.eqv]
  | .str _, _ => by simp [PyData.eqv]
  | .list xs, h => by simp only [PyData.eqv]; exact eqvs_refl xs (by simpa [noDct] using h)
  | .tuple xs, h => by simp only [PyData.eqv]; exact eqvs_refl xs (by simpa [noDct] using h)
  | .dict _, h => by simp [noDct] at h
theorem eqvs_refl : ∀ ds : List D, noDcts ds = true → PyData.eqvAll ds ds = true
  | [], _ => by simp [PyData.eqvAll]
  | d :: ds, h => by
    simp only [noDcts, Bool.and_eq_true] at h
    simp [PyData.eqvAll, eqv_refl d h.1, eqvs_refl ds h.2]
end
theorem ne_self {d : D} {n k : Nat} (h : lv n k d = true) (hk : k ≤ 60) : gNe d d = some (.bool false) := by
  have l := lv_ok n k d h
  rw [l.ne l hk hk, eqv_refl d l.nd]
  rfl
theorem eq_self {d : D} {n k : Nat} (h : lv n k d = true) (hk : k ≤ 60) : gEq d d = some (.bool true) := by
  have l := lv_ok n k d h
  rw [l.eq l hk hk, eqv_refl d l.nd]
theorem tab_lw {T : List (Int × List Rwt)} (h : TabOk T) : lw 9 4 (tabD T) = true := by
  unfold tabD
  simp only [lw, Bool.and_eq_true, decide_eq_true_eq, List.all_eq_true, List.length_map]
  refine ⟨by have := h.len; omega, fun e he => ?_⟩
  obtain ⟨r, hr, rfl⟩ := List.mem_map.mp he
  obtain ⟨⟨a1, a2⟩, b⟩ := h.ok r hr
  refine ⟨by simp only [tabE, lwK, decide_eq_true_eq]; omega, ?_⟩
  show lw 9 3 (rowsD r.2) = true
  unfold rowsD
  simp only [lw, Bool.and_eq_true, decide_eq_true_eq, List.all_eq_true, List.length_map]
  refine ⟨b.len, fun e he => ?_⟩
  obtain ⟨x, hx, rfl⟩ := List.mem_map.mp he
  obtain ⟨c1, c2, c3, c4⟩ := b.ok x hx
  refine ⟨by simp only [rowE, lwK, decide_eq_true_eq]; omega, ?_⟩
  show lw 9 2 (rowD x.2) = true
  unfold rowD
  simp only [lw, Bool.and_eq_true, decide_eq_true_eq, List.all_eq_true]
  refine ⟨by simp, fun d hd => ?_⟩
  rcases List.mem_cons.mp hd with rfl | hd
  · simp only [lw, decide_eq_true_eq]; omega
  · rw [List.mem_singleton] at hd; subst hd
    simp only [lw, Bool.and_eq_true, decide_eq_true_eq, List.all_eq_true, List.length_map]
    refine ⟨by omega, fun d hd => ?_⟩
    obtain ⟨f, hf, rfl⟩ := List.mem_map.mp hd
    have := c4 f hf
    simp only [lw, decide_eq_true_eq]; omega
theorem tab_repr {T : List (Int × List Rwt)} (h : TabOk T) : gRepr (tabD T) = some (.str (tabD T).shown) := (lw_ok 9 4 _ (tab_lw h)).repr (by decide) (by decide)
theorem nodup_le : ∀ {m : Nat} {F : List Int}, F.Nodup → (∀ x ∈ F, 0 ≤ x ∧ x < m) → F.length ≤ m
  | 0, F, _, h => by
    cases F with
    | nil => simp
    | cons a r => have := h a (by simp); omega
  | m + 1, F, nd, h => by
    by_cases hm : (m : Int) ∈ F
    · have h1 := nodup_le (m := m) (F := F.erase m) (nd.erase _) fun x hx => by
        have h2 := h x (List.mem_of_mem_erase hx)
        have h3 : x ≠ m := ((List.Nodup.mem_erase_iff nd).mp hx).1
        omega
      have h4 := List.length_erase_of_mem hm
      omega
    · have := nodup_le (m := m) nd fun x hx => by
        have h2 := h x hx
        have h3 : x ≠ m := fun z => hm (z ▸ hx)
        omega
      omega
end TT

/-! DZ: dict comprehensions, loops over dicts, sorted run forward. -/
namespace DL
open PySem L2 TT
section
variable {f g : Df} {e : En} {Q : D → En → Prop} {p : Bf} {t : Tg} {vs : List Nat}
theorem wd_dc {it : If} (h : Wi it e fun ds e1 => ds.length < 100000 ∧ We (wipeE vs e1) fun e2 => ∃ zs e3, dcGo vs t p f g ds [] e2 = some (zs, e3) ∧ Q (.dict zs) (restore vs e1 e3)) : Wd (eDc vs t it p f g) e Q := by
  obtain ⟨ds, e1, h1, hl, e2, h2, zs, e3, h3, k⟩ := h
  exact ⟨_, _, by simp [eDc, h1, hl, h2, h3], k⟩
theorem wi_k {Q : List D → En → Prop} (h : Wd f e fun d e => ∃ es, d = .dict es ∧ plainTy (.dict es) = true ∧ Q (es.map (·.1)) e) : Wi (iK f) e Q := by
  obtain ⟨_, e1, h1, es, rfl, hp, k⟩ := h
  refine ⟨_, _, ?_, k⟩
  unfold iK
  simp only [h1, Option.bind_some]
  exact plain_cases (P := fun es => (match (PyData.dict es : D) with | .dict ((.bool true, .none) :: _) => none | .dict es => if plainTy (.dict es) = true then some (es.map (·.1), e1) else none | _ => none) = some (es.map (·.1), e1)) hp rfl (fun _ _ _ => rfl) (fun _ _ _ => rfl)
def mkE (r : Int × D) : D × D := (.int r.1, r.2)
theorem dc_pure {e0 : En} (v : Int → D) : ∀ {ks : List Int} {l0 : List (Int × D)}, ((l0.map (·.1)) ++ ks).Nodup → (∀ k ∈ ks, We (t (.int k) e0) fun e1 => Wb p e1 fun b e => b = true ∧ Wd f e fun x e => x = .int k ∧ Wd g e fun y e => y = v k ∧ We (wipeE vs e) fun e => e = e0) →
    dcGo vs t p f g (ks.map .int) (l0.map mkE) e0 = some ((l0 ++ ks.map fun k => (k, v k)).map mkE, e0)
  | [], l0, _, _ => by simp [dcGo]
  | k :: ks, l0, nd, h => by
    obtain ⟨e1, h1, b, e2, h2, rfl, x, e3, h3, rfl, y, e4, h4, rfl, e5, h5, e6⟩ := h k List.mem_cons_self
    rw [e6] at h5
    have hn : k ∉ l0.map (·.1) := fun z => (List.nodup_append.mp nd).2.2 _ z k (by simp) rfl
    have pn : putD (l0.map mkE) (.inl k) (v k) = (l0 ++ [(k, v k)]).map mkE := put_new id (x := v k) hn
    have r := dc_pure v (ks := ks) (l0 := l0 ++ [(k, v k)]) (by simpa using nd) fun z hz => h z (List.mem_cons_of_mem _ hz)
    rw [List.map_cons]
    simp only [dcGo, h1, h2, h3, h4, h5, Option.bind_some, if_true, keyD, pn, r]
    simp
end
theorem tupI_tup {k : List Int} (h : k ≠ []) : tupI (tupD k) = some k := by
  cases k with
  | nil => exact absurd rfl h
  | cons a r =>
    show intsOf ((a :: r).map .int) = _
    exact ints_of _
where
  ints_of : ∀ l : List Int, intsOf (l.map PyData.int) = some l
  | [] => rfl
  | a :: l => by simp [intsOf, ints_of l]
theorem tupsI_tups : ∀ {U : List (List Int)}, (∀ k ∈ U, k ≠ []) → tupsI (U.map tupD) = some U
  | [], _ => rfl
  | k :: U, h => by simp [tupsI, tupI_tup (h k (by simp)), tupsI_tups fun z hz => h z (List.mem_cons_of_mem _ hz)]
theorem srt_tups {U : List (List Int)} (h : ∀ k ∈ U, k ≠ []) : gSrt [.list (U.map tupD)] = some (.list ((sortL U).map tupD)) := by
  cases U with
  | nil => rfl
  | cons k r =>
    have e1 : gSorted [.list ((k :: r).map tupD)] = none := rfl
    have e2 : gSortedT [.list ((k :: r).map tupD)] = some (.list ((sortL (k :: r)).map tupD)) := by
      simp only [gSortedT, tupsI_tups h, Option.bind_some]
    simp only [gSrt, e1, e2]
theorem srt_ints (l : List Int) : gSrt [.list (l.map .int)] = some (.list ((sortI l).map .int)) := by
  have : gSorted [.list (l.map .int)] = some (.list ((sortI l).map .int)) := by
    simp only [gSorted, tupI_tup.ints_of, Option.bind_some]
  simp only [gSrt, this]
def tupE (K : List (List Int)) : List (D × D) := K.map fun k => (tupD k, PyData.bool true)
theorem keyTI_tups : ∀ {K : List (List Int)}, (∀ k ∈ K, k ≠ []) → keyTI (tupE K) = some K
  | [], _ => rfl
  | k :: K, h => by
    have := keyTI_tups (K := K) fun z hz => h z (List.mem_cons_of_mem _ hz)
    unfold tupE at this ⊢
    simp [keyTI, tupI_tup (h k (by simp)), this]
theorem srt_tupDict {K : List (List Int)} (h : ∀ k ∈ K, k ≠ []) : gSrt [.dict ((.bool true, .none) :: tupE K)] = some (.list ((sortL K).map tupD)) := by
  have e1 : gSorted [.dict ((.bool true, .none) :: tupE K)] = none := rfl
  have e2 : gSortedT [.dict ((.bool true, .none) :: tupE K)] = none := rfl
  have e3 : gSortedDT [.dict ((.bool true, .none) :: tupE K)] = some (.list ((sortL K).map tupD)) := by
    simp only [gSortedDT, keyTI_tups h, Option.bind_some]
  simp only [gSrt, e1, e2, e3]
theorem keyT_tupD (k : List Int) : keyT (tupD k) = some (k.map Sum.inl) := by
  have : (tupD k) = .tuple ((k.map Sum.inl : List Key).map kD) := by simp [tupD, List.map_map, Function.comp_def, kD]
  rw [this]
  exact keysD_kD _
theorem put_tup {K : List (List Int)} {b : List Int} (hl : K.length < 100000) : gPutD (tupD b) (.bool true) (.dict ((.bool true, .none) :: tupE K)) = some (.dict ((.bool true, .none) :: tupE (if b ∈ K then K else K ++ [b]))) := by
  have inj : ∀ k : List Int, (keyT (tupD k) = some (b.map Sum.inl)) ↔ k = b := fun k => by
    rw [keyT_tupD]
    constructor
    · intro z
      have z := Option.some.inj z
      have := congrArg (List.map fun x : Key => match x with | .inl i => i | .inr _ => 0) z
      simpa [List.map_map, Function.comp_def] using this
    · rintro rfl; rfl
  have e0 : gPutD (tupD b) (.bool true) (.dict ((.bool true, .none) :: tupE K)) = if (tupE K).length < 100000 then (keyT (tupD b)).bind fun ks => some (.dict ((.bool true, .none) :: putDT (tupE K) ks (.bool true))) else none := rfl
  rw [e0, if_pos (by simpa [tupE] using hl), keyT_tupD]
  simp only [Option.bind_some]
  congr 3
  unfold putDT
  by_cases hb : b ∈ K
  · have : ((tupE K).any fun e => decide (keyT e.1 = some (b.map Sum.inl))) = true := by
      rw [List.any_eq_true]
      exact ⟨(tupD b, .bool true), List.mem_map.mpr ⟨b, hb, rfl⟩, by simp [keyT_tupD]⟩
    rw [if_pos this, if_pos hb]
    unfold tupE
    rw [List.map_map]
    refine List.map_congr_left fun k _ => ?_
    simp only [Function.comp]
    split <;> rfl
  · have : ¬ ((tupE K).any fun e => decide (keyT e.1 = some (b.map Sum.inl))) = true := by
      rw [List.any_eq_true]
      rintro ⟨e, he, h2⟩
      obtain ⟨k, hk, rfl⟩ := List.mem_map.mp he
      have := (inj k).mp (by simpa using h2)
      exact hb (this ▸ hk)
    rw [if_neg this, if_neg hb]
    unfold tupE
    rw [List.map_append]
    simp [tupD, List.map_map, Function.comp_def, kD]
end DL

/-! DNg: raising run forward. -/
namespace DL
open PySem L2
section
variable {e : En} {Q : Rs → Prop} {f : Sf} {x fld : Str}
theorem ws_noX (h : Ws f e fun r => (∀ x e', r ≠ .xx x e') ∧ Q r) : Ws (noX f) e Q := by
  obtain ⟨r, h1, h2, k⟩ := h
  refine ⟨r, ?_, k⟩
  unfold noX
  rw [h1]
  cases r <;> first | rfl | exact absurd rfl (h2 _ _)
theorem ws_raise {f : Df} (h : Wd f e fun d e => Q (.xx ⟨x, some (fld, d)⟩ e)) : Ws (sRaise x fld f) e Q := by
  obtain ⟨d, e1, h1, k⟩ := h
  exact ⟨_, by simp [sRaise, h1], k⟩
/-- what is told or raised, run forward -/
def Wz (f : Dx) (e : En) (Q : D ⊕ Ex → En → Prop) : Prop := ∃ r e', f e = some (r, e') ∧ Q r e'
theorem ws_dropX {f : Dx} (h : Wz f e fun r e => match r with | .inl _ => Q (.nx e) | .inr x => Q (.xx x e)) : Ws (sDropX f) e Q := by
  obtain ⟨r, e1, h1, k⟩ := h
  cases r with
  | inl d => exact ⟨_, by simp [sDropX, h1], k⟩
  | inr x => exact ⟨_, by simp [sDropX, h1], k⟩
theorem ws_retX {f : Dx} (h : Wz f e fun r e => match r with | .inl d => Q (.rt d e) | .inr x => Q (.xx x e)) : Ws (sRetX f) e Q := by
  obtain ⟨r, e1, h1, k⟩ := h
  cases r with
  | inl d => exact ⟨_, by simp [sRetX, h1], k⟩
  | inr x => exact ⟨_, by simp [sRetX, h1], k⟩
def Wfx (x : Option ((D ⊕ Ex) × List D)) (Q : D ⊕ Ex → List D → Prop) : Prop := ∃ r os, x = some (r, os) ∧ Q r os
theorem wz_call {fl : List Bool} {g : List D → Option ((D ⊕ Ex) × List D)} {os : List Opd} {Q : D ⊕ Ex → En → Prop} (h : Wv os e fun us e => Wy (callIn fl us e) fun ds => Wfx (g ds) fun r outs => We (putBack (callSl us) outs e) fun e => Q r e) : Wz (eCallX fl g os) e Q := by
  obtain ⟨us, e1, h1, ds, h2, d, outs, h3, e2, h4, k⟩ := h
  exact ⟨_, _, by simp [eCallX, h1, h2, h3, h4], k⟩
theorem wf_told {g : List D → Option ((D ⊕ Ex) × List D)} {ds : List D} {Q : D → List D → Prop} (h : Wfx (g ds) fun r os => ∃ d, r = .inl d ∧ Q d os) : Wf (told g ds) Q := by
  obtain ⟨r, os, h1, d, rfl, k⟩ := h
  exact ⟨d, os, by simp [told, h1], k⟩
/-- how a body of a def that may raise ends -/
def Rs.finX (fl : List Bool) (Q : D ⊕ Ex → List D → Prop) : Rs → Prop
  | .nx e => ∃ os, outsAt (slotsOf 0 fl) e = some os ∧ Q (.inl .none) os
  | .rt d e => ∃ os, outsAt (slotsOf 0 fl) e = some os ∧ Q (.inl d) os
  | .xx x e => ∃ os, outsAt (slotsOf 0 fl) e = some os ∧ Q (.inr x) os
  | _ => False
theorem wfx_of {n : Nat} {fl : List Bool} {body : Sf} {ds : List D} {Q : D ⊕ Ex → List D → Prop} (hl : ds.length = fl.length) (h : Ws body (env0 n fl ds) (Rs.finX fl Q)) : Wfx (gOfX n fl body ds) Q := by
  obtain ⟨r, h1, k⟩ := h
  cases r with
  | nx e1 => obtain ⟨os, h2, k⟩ := k; exact ⟨_, _, by simp [gOfX, hl, h1, h2], k⟩
  | rt d e1 => obtain ⟨os, h2, k⟩ := k; exact ⟨_, _, by simp [gOfX, hl, h1, h2], k⟩
  | xx x e1 => obtain ⟨os, h2, k⟩ := k; exact ⟨_, _, by simp [gOfX, hl, h1, h2], k⟩
  | bk e1 => exact k.elim
  | ct e1 => exact k.elim
  | rn d e1 => exact k.elim
  | rm s d e1 => exact k.elim
end
end DL

/-! DNm: try, isinstance, fields of exceptions run forward. -/
namespace DL
open PySem L2
section
variable {e : En} {Q : Rs → Prop} {f b : Sf} {x : Ex}
/-- how a try's body ends -/
def Rs.tr (cs : List Cd) (Q : Rs → Prop) : Rs → Prop
  | .xx x e => ∃ r, pick cs x e = some r ∧ Q r
  | r => Q r
theorem ws_try {cs : List Cd} (h : Ws b e (Rs.tr cs Q)) : Ws (sTry b cs) e Q := by
  obtain ⟨r, h1, k⟩ := h
  cases r with
  | xx x e1 => obtain ⟨r, h2, k⟩ := k; exact ⟨r, by simp [sTry, h1, h2], k⟩
  | _ => exact ⟨_, by simp [sTry, h1], k⟩
theorem tr_nx {cs : List Cd} (h : Q (.nx e)) : Rs.tr cs Q (.nx e) := h
theorem tr_rt {cs : List Cd} {d : D} (h : Q (.rt d e)) : Rs.tr cs Q (.rt d e) := h
theorem tr_xx {cs : List Cd} (h : ∃ r, pick cs x e = some r ∧ Q r) : Rs.tr cs Q (.xx x e) := h
theorem pk_yes {cs : List Cd} {m : Mt} {i : Option Nat} {e1 : En} (h : m x.c = some true) (h1 : cIn i x e = some e1) (k : Ws f e1 fun r => ∃ r', cOut i r = some r' ∧ Q r') : ∃ r, pick ((m, i, f) :: cs) x e = some r ∧ Q r := by
  obtain ⟨r, h2, r', h3, k⟩ := k
  exact ⟨r', by simp [pick, h, h1, h2, h3], k⟩
theorem pk_no {cs : List Cd} {m : Mt} {i : Option Nat} (h : m x.c = some false) (k : ∃ r, pick cs x e = some r ∧ Q r) : ∃ r, pick ((m, i, f) :: cs) x e = some r ∧ Q r := by
  obtain ⟨r, h2, k⟩ := k
  exact ⟨r, by simp [pick, h, h2], k⟩
theorem co_nx {i : Nat} (h : mayPut e[i]? = true) (k : Q (.nx (e.set i .un))) : ∃ r', cOut (some i) (.nx e) = some r' ∧ Q r' := ⟨_, by simp [cOut, unS, put, h], k⟩
theorem co_rt {i : Option Nat} {d : D} (k : Q (.rt d e)) : ∃ r', cOut i (.rt d e) = some r' ∧ Q r' := ⟨_, by cases i <;> rfl, k⟩
theorem co_rn {i : Option Nat} {d : D} (k : Q (.rn d e)) : ∃ r', cOut i (.rn d e) = some r' ∧ Q r' := ⟨_, by cases i <;> rfl, k⟩
theorem rg_xx {A : En → Prop} (h : Q (.xx x e)) : Rs.go A Q (.xx x e) := h
theorem ws_raise0 {c : Str} (h : Q (.xx ⟨c, none⟩ e)) : Ws (sRaise0 c) e Q := ⟨_, rfl, h⟩
theorem rx_nx {fl : List Bool} {Q : D ⊕ Ex → List D → Prop} {os : List D} (h : outsAt (slotsOf 0 fl) e = some os) (k : Q (.inl .none) os) : Rs.finX fl Q (.nx e) := ⟨os, h, k⟩
theorem rx_rt {fl : List Bool} {Q : D ⊕ Ex → List D → Prop} {os : List D} {d : D} (h : outsAt (slotsOf 0 fl) e = some os) (k : Q (.inl d) os) : Rs.finX fl Q (.rt d e) := ⟨os, h, k⟩
theorem rx_xx {fl : List Bool} {Q : D ⊕ Ex → List D → Prop} {os : List D} (h : outsAt (slotsOf 0 fl) e = some os) (k : Q (.inr x) os) : Rs.finX fl Q (.xx x e) := ⟨os, h, k⟩
theorem wq_isX {mn : Option Bool} {m : Mt} {d z : D} {Q : D → Prop} (h : gIsX mn m d = some z) (k : Q z) : Wx (gIsX mn m d) Q := ⟨_, h, k⟩
theorem wq_xf {g : Str} {ok : Str → Bool} {d z : D} {Q : D → Prop} (h : gXf g ok d = some z) (k : Q z) : Wx (gXf g ok d) Q := ⟨_, h, k⟩
theorem wfx_use {o : Option ((D ⊕ Ex) × List D)} {P Q : D ⊕ Ex → List D → Prop} (h : Wfx o P) (k : ∀ d os, P d os → Q d os) : Wfx o Q := by
  obtain ⟨d, os, h1, h2⟩ := h
  exact ⟨d, os, h1, k _ _ h2⟩
theorem wfx_eq {o : Option ((D ⊕ Ex) × List D)} {Q : D ⊕ Ex → List D → Prop} {d : D ⊕ Ex} {os : List D} (h : o = some (d, os)) (k : Q d os) : Wfx o Q := ⟨d, os, h, k⟩
/-! rounds of a for loop that may return or raise -/
def Rs.onX (I : En → Prop) (Q : Rs → Prop) : Rs → Prop
  | .nx e => I e
  | .ct e => I e
  | .bk e => Q (.nx e)
  | r => Q r
theorem ox_nx {I : En → Prop} (h : I e) : Rs.onX I Q (.nx e) := h
theorem ox_rt {I : En → Prop} {d : D} (h : Q (.rt d e)) : Rs.onX I Q (.rt d e) := h
theorem ox_rn {I : En → Prop} {d : D} (h : Q (.rn d e)) : Rs.onX I Q (.rn d e) := h
theorem ox_xx {I : En → Prop} (h : Q (.xx x e)) : Rs.onX I Q (.xx x e) := h
/-- the loop's rounds, counted: before the round of the k-th item I k holds -/
theorem for_step {t : Tg} {body : Sf} (I : Nat → En → Prop) : ∀ {ds : List D} {k : Nat} {e : En}, I k e → (∀ (i : Nat) (x : D) (e : En), ds[i]? = some x → I (k + i) e → We (t x e) fun e1 => Ws body e1 (Rs.onX (I (k + i + 1)) Q)) → (∀ e, I (k + ds.length) e → Q (.nx e)) → ∃ r, forD t body ds e = some r ∧ Q r
  | [], k, e, h, _, hk => ⟨_, rfl, hk e h⟩
  | x :: ds, k, e, h, hb, hk => by
    obtain ⟨e1, h1, r, h2, k2⟩ := hb 0 x e rfl h
    have ih : ∀ {e2 : En}, I (k + 1) e2 → ∃ r, forD t body ds e2 = some r ∧ Q r := fun {e2} h3 => for_step I h3 (fun i y e hy hI => by
      have := hb (i + 1) y e hy (by rw [show k + (i + 1) = k + 1 + i by omega]; exact hI)
      rw [show k + (i + 1) + 1 = k + 1 + i + 1 by omega] at this
      exact this) (fun e hI => hk e (by rw [List.length_cons, show k + (ds.length + 1) = k + 1 + ds.length by omega]; exact hI))
    cases r with
    | nx e2 =>
      obtain ⟨r, h3, k3⟩ := ih k2
      exact ⟨r, by simp [forD, h1, h2, h3], k3⟩
    | ct e2 =>
      obtain ⟨r, h3, k3⟩ := ih k2
      exact ⟨r, by simp [forD, h1, h2, h3], k3⟩
    | bk e2 => exact ⟨_, by simp [forD, h1, h2], k2⟩
    | rt d e2 => exact ⟨_, by simp [forD, h1, h2], k2⟩
    | rn d e2 => exact ⟨_, by simp [forD, h1, h2], k2⟩
    | rm s d e2 => exact ⟨_, by simp [forD, h1, h2], k2⟩
    | xx x e2 => exact ⟨_, by simp [forD, h1, h2], k2⟩
end
end DL

/-! DNn: data that can be shown and compared: at most k deep, at most L signs. -/
namespace DL
open PySem L2
structure Nc (k L : Nat) (d : D) : Prop where
  scr : noScr d = true
  sho : d.showable = true
  nod : d.hasDict = false
  dep : d.depth ≤ k
  len : d.shown.length ≤ L
  lay : d.canLay0 = true
  nd : noDct d = true
  ty : plainTy d = true
theorem Nc.mono {k L k' L' : Nat} {d : D} (h : Nc k L d) (hk : k ≤ k') (hl : L ≤ L') : Nc k' L' d := ⟨h.scr, h.sho, h.nod, Nat.le_trans h.dep hk, Nat.le_trans h.len hl, h.lay, h.nd, h.ty⟩
theorem nc_none : Nc 0 10 .none := ⟨rfl, rfl, rfl, Nat.le_refl _, by decide, rfl, rfl, rfl⟩
theorem nc_bool (b : Bool) : Nc 0 10 (.bool b) := ⟨rfl, rfl, rfl, Nat.le_refl _, by cases b <;> decide, rfl, rfl, rfl⟩
theorem nc_int {i : Int} (h : i.natAbs < 10 ^ 60) : Nc 0 61 (.int i) := ⟨rfl, by simpa [PyData.showable] using log62 h, rfl, Nat.le_refl _, big62 h, rfl, rfl, rfl⟩
theorem nc_str {x : Str} {L : Nat} (h : PyData.strOk x = true) (hl : (PyData.shown (.str x)).length ≤ L) : Nc 0 L (.str x) := ⟨rfl, rfl, rfl, Nat.le_refl _, hl, h, rfl, rfl⟩
structure NcA (k L : Nat) (ds : List D) : Prop where
  scr : noScrs ds = true
  sho : PyData.showableAll ds = true
  nod : PyData.hasDictAll ds = false
  dep : PyData.depthAll ds ≤ k
  len : ((PyData.shownAll ds).map (·.length)).sum + 2 * ds.length ≤ ds.length * (L + 2)
  lay : PyData.canLayAll0 ds = true
  nd : noDcts ds = true
theorem NcA.of {k L : Nat} : ∀ {ds : List D}, (∀ d ∈ ds, Nc k L d) → NcA k L ds
  | [], _ => ⟨rfl, rfl, rfl, Nat.zero_le _, by simp [PyData.shownAll], rfl, rfl⟩
  | d :: ds, h => by
    have a := h d List.mem_cons_self
    have b := NcA.of (k := k) (L := L) (ds := ds) fun x hx => h x (List.mem_cons_of_mem _ hx)
    refine ⟨by simp [noScrs, a.scr, b.scr], by simp [PyData.showableAll, a.sho, b.sho], by simp [PyData.hasDictAll, a.nod, b.nod], Nat.max_le.mpr ⟨a.dep, b.dep⟩, ?_, by simp [PyData.canLayAll0, a.lay, b.lay], by simp [noDcts, a.nd, b.nd]⟩
    have h1 := a.len
    have h2 := b.len
    simp only [PyData.shownAll, List.map_cons, List.sum_cons, List.length_cons, Nat.add_mul] at h2 ⊢
    omega
theorem nc_list {k L M : Nat} {xs : List D} (h : ∀ x ∈ xs, Nc k L x) (hm : xs.length * (L + 2) + 10 ≤ M) : Nc (k + 1) M (.list xs) := by
  have a := NcA.of h
  refine ⟨by simp [noScr, a.scr], by simp [PyData.showable, a.sho], by simp [PyData.hasDict, a.nod], Nat.succ_le_succ a.dep, ?_, by simp [PyData.canLay0, a.lay], by simp [noDct, a.nd], rfl⟩
  have h1 := listText_len_le (PyData.shownAll xs)
  have h2 := PyData.shownAll_length xs
  have h3 := a.len
  simp only [PyData.shown]
  omega
theorem nc_tuple {k L M : Nat} {xs : List D} (h : ∀ x ∈ xs, Nc k L x) (hm : xs.length * (L + 2) + 10 ≤ M) : Nc (k + 1) M (.tuple xs) := by
  have a := NcA.of h
  refine ⟨by simp [noScr, a.scr], by simp [PyData.showable, a.sho], by simp [PyData.hasDict, a.nod], Nat.succ_le_succ a.dep, ?_, by simp [PyData.canLay0, a.lay], by simp [noDct, a.nd], rfl⟩
  have h1 := tupleText_len_le (PyData.shownAll xs)
  have h2 := PyData.shownAll_length xs
  have h3 := a.len
  simp only [PyData.shown]
  omega
theorem Nc.repr {k L : Nat} {d : D} (h : Nc k L d) (hk : k ≤ 60 := by decide) (hl : L ≤ 16000000 := by decide) : gRepr d = some (.str d.shown) := by
  have e : reprOk d = true := by
    have := h.dep
    have := h.len
    simp [reprOk, h.scr, h.sho, h.nod]
    omega
  simp [gRepr, e]
theorem Nc.shaped {k L : Nat} {d : D} (h : Nc k L d) (hk : k ≤ 60 := by decide) : SeqAt.shaped d = true := by
  have := h.dep
  simp [SeqAt.shaped, h.lay]
  omega
theorem Nc.eq {k L k' L' : Nat} {d e : D} (h : Nc k L d) (g : Nc k' L' e) (hk : k ≤ 60 := by decide) (hk' : k' ≤ 60 := by decide) : gEq d e = some (.bool (PyData.eqv d e)) := by
  simp [gEq, gEqq, h.nd, g.nd, h.shaped hk, g.shaped hk']
theorem Nc.ne {k L k' L' : Nat} {d e : D} (h : Nc k L d) (g : Nc k' L' e) (hk : k ≤ 60 := by decide) (hk' : k' ≤ 60 := by decide) : gNe d e = some (.bool (!PyData.eqv d e)) := by
  simp [gNe, gEqq, h.nd, g.nd, h.shaped hk, g.shaped hk']
theorem Nc.neS {k L : Nat} {d : D} (h : Nc k L d) (hk : k ≤ 60 := by decide) : gNe d d = some (.bool false) := by
  rw [h.ne h hk hk, TT.eqv_refl d h.nd]; rfl
theorem Nc.eqS {k L : Nat} {d : D} (h : Nc k L d) (hk : k ≤ 60 := by decide) : gEq d d = some (.bool true) := by
  rw [h.eq h hk hk, TT.eqv_refl d h.nd]
/-- in a dict whose keys are tuples of whole numbers -/
theorem in_tups {K : List (List Int)} {b : List Int} : gIn (tupD b) (.dict ((.bool true, .none) :: tupE K)) = some (.bool (decide (b ∈ K))) := by
  have inj : ∀ k : List Int, (keyT (tupD k) = some (b.map Sum.inl)) ↔ k = b := fun k => by
    rw [keyT_tupD]
    constructor
    · intro z
      have z := Option.some.inj z
      have := congrArg (List.map fun x : Key => match x with | .inl i => i | .inr _ => 0) z
      simpa [List.map_map, Function.comp_def] using this
    · rintro rfl; rfl
  have e0 : gIn (tupD b) (.dict ((.bool true, .none) :: tupE K)) = ((keyT (tupD b)).bind fun ks => some (findT (tupE K) ks)).bind fun r => some (.bool (xor false r.isSome)) := rfl
  rw [e0, keyT_tupD]
  simp only [Option.bind_some, Bool.false_bne]
  congr 2
  unfold findT
  rw [Option.isSome_map, Bool.eq_iff_iff, List.find?_isSome]
  constructor
  · rintro ⟨x, hx, h2⟩
    obtain ⟨k, hk, rfl⟩ := List.mem_map.mp hx
    have := (inj k).mp (by simpa using h2)
    simpa using this ▸ hk
  · intro hb
    exact ⟨(tupD b, .bool true), List.mem_map.mpr ⟨b, by simpa using hb, rfl⟩, by simp [keyT_tupD]⟩
/-- a comprehension with a test, nothing of the state changes -/
theorem lc_filter {vs : List Nat} {t : Tg} {p : Bf} {f : Df} {e0 : En} (c : D → Bool) (g : D → D) : ∀ {ds : List D}, (∀ x ∈ ds, We (t x e0) fun e1 => Wb p e1 fun b e => b = c x ∧ Wc b (Wd f e fun y e => y = g x ∧ We (wipeE vs e) fun e => e = e0) (We (wipeE vs e) fun e => e = e0)) → lcGo vs t p f ds e0 = some ((ds.filter c).map g, e0)
  | [], _ => rfl
  | x :: ds, h => by
    obtain ⟨e1, h1, b, e2, h2, rfl, k1, k2⟩ := h x List.mem_cons_self
    have r := lc_filter (c := c) (g := g) (ds := ds) fun z hz => h z (List.mem_cons_of_mem _ hz)
    cases q : c x with
    | true =>
      obtain ⟨y, e3, h3, rfl, e4, h4, e5⟩ := k1 q
      rw [e5] at h4
      rw [q] at h2
      simp [lcGo, h1, h2, h3, h4, r, q]
    | false =>
      obtain ⟨e4, h4, e5⟩ := k2 q
      rw [e5] at h4
      rw [q] at h2
      simp [lcGo, h1, h2, h4, r, q]
end DL

/-! DNo: lambdas, dicts with tuple keys and any values, raising defs with new results, run forward. -/
namespace DL
open PySem L2
theorem wd_lam {h : D ⊕ Ex → Option D} {f : Dx} {e : En} {Q : D → En → Prop} (hh : Wz f e fun r e => Wx (h r) fun d => Q d e) : Wd (eLam h f) e Q := by
  obtain ⟨r, e1, h1, d, h2, k⟩ := hh
  exact ⟨d, e1, by simp [eLam, h1, h2], k⟩
theorem wi_kT {f : Df} {e : En} {Q : List D → En → Prop} (h : Wd f e fun d e => ∃ es, d = .dict ((.bool true, .none) :: es) ∧ Q (es.map (·.1)) e) : Wi (iKT f) e Q := by
  obtain ⟨d, e1, h1, es, rfl, k⟩ := h
  exact ⟨_, _, by simp [iKT, h1], k⟩
def Rs.finXN (fl : List Bool) (Q : D ⊕ Ex → List D → Prop) : Rs → Prop
  | .rn d e => ∃ os, outsAt (slotsOf 0 fl) e = some os ∧ Q (.inl d) os
  | .xx x e => ∃ os, outsAt (slotsOf 0 fl) e = some os ∧ Q (.inr x) os
  | _ => False
theorem wfx_ofN {n : Nat} {fl : List Bool} {body : Sf} {ds : List D} {Q : D ⊕ Ex → List D → Prop} (hl : ds.length = fl.length) (h : Ws body (env0 n fl ds) (Rs.finXN fl Q)) : Wfx (gOfXN n fl body ds) Q := by
  obtain ⟨r, h1, k⟩ := h
  cases r with
  | rn d e1 => obtain ⟨os, h2, k⟩ := k; exact ⟨_, _, by simp [gOfXN, hl, h1, h2], k⟩
  | xx x e1 => obtain ⟨os, h2, k⟩ := k; exact ⟨_, _, by simp [gOfXN, hl, h1, h2], k⟩
  | nx e1 => exact k.elim
  | rt d e1 => exact k.elim
  | bk e1 => exact k.elim
  | ct e1 => exact k.elim
  | rm s d e1 => exact k.elim
theorem rn_rn {fl : List Bool} {Q : D ⊕ Ex → List D → Prop} {d : D} {e : En} {os : List D} (h : outsAt (slotsOf 0 fl) e = some os) (k : Q (.inl d) os) : Rs.finXN fl Q (.rn d e) := ⟨os, h, k⟩
theorem rn_xx {fl : List Bool} {Q : D ⊕ Ex → List D → Prop} {x : Ex} {e : En} {os : List D} (h : outsAt (slotsOf 0 fl) e = some os) (k : Q (.inr x) os) : Rs.finXN fl Q (.xx x e) := ⟨os, h, k⟩
/-! ### dicts with tuple keys -/
def tupV (K : List (List Int × D)) : List (D × D) := K.map fun k => (tupD k.1, k.2)
theorem keyT_iff {k b : List Int} : (keyT (tupD k) = some (b.map Sum.inl)) ↔ k = b := by
  rw [keyT_tupD]
  constructor
  · intro z
    have z := Option.some.inj z
    have := congrArg (List.map fun x : Key => match x with | .inl i => i | .inr _ => 0) z
    simpa [List.map_map, Function.comp_def] using this
  · rintro rfl; rfl
theorem get_tupV {K : List (List Int × D)} {b : List Int} : dGet (.dict ((.bool true, .none) :: tupV K)) (tupD b) = some ((K.find? fun k => decide (k.1 = b)).map (·.2)) := by
  have e0 : dGet (.dict ((.bool true, .none) :: tupV K)) (tupD b) = (keyT (tupD b)).bind fun ks => some (findT (tupV K) ks) := rfl
  rw [e0, keyT_tupD]
  simp only [Option.bind_some]
  congr 1
  unfold findT tupV
  rw [List.find?_map, Option.map_map]
  congr 1
  refine congrArg (fun p => List.find? p K) (funext fun k => ?_)
  simp only [Function.comp]
  exact decide_eq_decide.mpr keyT_iff
theorem in_tupV {K : List (List Int × D)} {b : List Int} : gIn (tupD b) (.dict ((.bool true, .none) :: tupV K)) = some (.bool (decide (b ∈ K.map (·.1)))) := by
  have e0 : gIn (tupD b) (.dict ((.bool true, .none) :: tupV K)) = (dGet (.dict ((.bool true, .none) :: tupV K)) (tupD b)).bind fun r => some (.bool (xor false r.isSome)) := rfl
  rw [e0, get_tupV]
  simp only [Option.bind_some, Bool.false_bne]
  congr 2
  rw [Option.isSome_map, Bool.eq_iff_iff, List.find?_isSome]
  simp only [decide_eq_true_eq, List.mem_map]
theorem put_tupV {K : List (List Int × D)} {b : List Int} {v : D} (hl : K.length < 100000) (hb : ∀ k ∈ K, k.1 ≠ b) : gPutD (tupD b) v (.dict ((.bool true, .none) :: tupV K)) = some (.dict ((.bool true, .none) :: tupV (K ++ [(b, v)]))) := by
  have e0 : gPutD (tupD b) v (.dict ((.bool true, .none) :: tupV K)) = if (tupV K).length < 100000 then (keyT (tupD b)).bind fun ks => some (.dict ((.bool true, .none) :: putDT (tupV K) ks v)) else none := rfl
  rw [e0, if_pos (by simpa [tupV] using hl), keyT_tupD]
  simp only [Option.bind_some]
  congr 3
  unfold putDT
  have : ¬ ((tupV K).any fun e => decide (keyT e.1 = some (b.map Sum.inl))) = true := by
    rw [List.any_eq_true]
    rintro ⟨e, he, h2⟩
    obtain ⟨k, hk, rfl⟩ := List.mem_map.mp he
    exact hb k hk (keyT_iff.mp (by simpa using h2))
  rw [if_neg this]
  unfold tupV
  rw [List.map_append]
  simp [tupD, List.map_map, Function.comp_def, kD]
/-- two rising lists of the same members are one -/
theorem eq_rising : ∀ {a b : List Int}, a.Pairwise (· < ·) → b.Pairwise (· < ·) → (∀ x, x ∈ a ↔ x ∈ b) → a = b
  | [], [], _, _, _ => rfl
  | [], y :: b, _, _, h => nomatch (h y).mpr List.mem_cons_self
  | x :: a, [], _, _, h => nomatch (h x).mp List.mem_cons_self
  | x :: a, y :: b, h1, h2, h => by
    obtain ⟨p1, p2⟩ := List.pairwise_cons.mp h1
    obtain ⟨q1, q2⟩ := List.pairwise_cons.mp h2
    have e : x = y := by
      rcases List.mem_cons.mp ((h x).mp List.mem_cons_self) with z | z
      · exact z
      · rcases List.mem_cons.mp ((h y).mpr List.mem_cons_self) with w | w
        · exact w.symm
        · have := p1 y w
          have := q1 x z
          omega
    subst e
    rw [eq_rising p2 q2 fun z => ⟨fun hz => ?_, fun hz => ?_⟩]
    · rcases List.mem_cons.mp ((h z).mp (List.mem_cons_of_mem _ hz)) with w | w
      · have := p1 z hz; omega
      · exact w
    · rcases List.mem_cons.mp ((h z).mpr (List.mem_cons_of_mem _ hz)) with w | w
      · have := q1 z hz; omega
      · exact w
theorem sort_rising {l : List Int} (nd : l.Nodup) : (sortI l).Pairwise (· < ·) := by
  have h1 := sortI_le l
  have h2 : (sortI l).Pairwise (· ≠ ·) := (sortI_perm l).nodup_iff.mpr nd
  exact (h1.and h2).imp fun ⟨a, b⟩ => by omega
end DL

/-! DV: prices and webs drawn. -/
namespace DL
open PySem L2 TT
local macro_rules | `(tactic| walk_at "go") => `(tactic| repeat (with_reducible first
  | refine wo_ex ?_ | refine wl_f ?_ | refine wd_c ?_ | refine wd_op2 ?_ | refine wd_get1 ?_ | refine wd_dc ?_ | refine wi_k ?_ | refine wd_get2 ?_ | refine wd_fz ?_ | refine wd_methR ?_ | refine wm_f ?_ | refine wm_n ?_ | refine wm_tup ?_ | refine wm_call ?_ | refine wms_nil ?_ | refine wms_cons ?_ | refine ws_setT ?_ | refine ws_retT ?_ | refine ws_putD ?_ | refine rg_rm ?_ | refine rw_rt ?_ | refine rw_rn ?_ | refine rw_rm ?_ | refine and_lenM (by simp) (by simp) ?_ | refine wx_isN ?_ | refine wd_disp (by decide) ?_ | refine evp_nil ?_ | refine evp_cons ?_ | refine wd_appP ?_ | refine wpl_sub ?_ | refine wq_c ?_ | refine wd_op1 ?_ | refine wd_opA ?_ | refine wv_nil ?_ | refine wv_cons ?_ | refine wk_nil ?_ | refine wk_cons ?_
  | refine wc_t ?_ | refine wc_f ?_ | refine wb_d ?_ | refine wb_and ?_ | refine wb_or ?_ | refine wb_not ?_ | refine wb_tt ?_ | refine wd_and ?_ | refine wd_or ?_ | refine wd_not ?_ | refine wd_if ?_ | refine wd_chain ?_
  | refine wd_tup ?_ | refine wd_lst ?_ | refine wd_call ?_ | refine wd_meth ?_ | refine wd_slice ?_ | refine wp_no ?_ | refine wp_at ?_ | refine wd_dict0 ?_ | refine wd_lc ?_ | refine wi_l ?_ | refine wi_t ?_ | refine wi_enT ?_ | refine wi_enL ?_ | refine wi_zipT ?_ | refine wi_r1 ?_
  | refine ws_seq ?_ | refine ws_nx ?_ | refine ws_if ?_ | refine ws_set ?_ | refine ws_setN ?_ | refine ws_drop ?_ | refine ws_ret ?_ | refine ws_retN ?_ | refine ws_unp ?_ | refine ws_setIx ?_ | refine ws_for ?_
  | refine rg_nx ?_ | refine rg_rt ?_ | refine rg_rn ?_ | refine rf_nx ?_ | refine rf_rt ?_ | refine rf_rn ?_
  | refine ws_try ?_ | refine tr_nx ?_ | refine tr_rt ?_ | refine tr_xx ?_ | refine rg_xx ?_ | refine ws_raise ?_ | refine ws_raise0 ?_ | refine ws_dropX ?_ | refine ws_retX ?_ | refine wz_call ?_ | refine pk_yes (by with_unfolding_all rfl) (by with_unfolding_all rfl) ?_ | refine pk_no (by with_unfolding_all rfl) ?_ | refine co_nx (by with_unfolding_all rfl) ?_ | refine co_rt ?_ | refine co_rn ?_ | refine rx_nx (by with_unfolding_all rfl) ?_ | refine rx_rt (by with_unfolding_all rfl) ?_ | refine rx_xx (by with_unfolding_all rfl) ?_ | refine wq_isX (by with_unfolding_all rfl) ?_ | refine wq_xf (by with_unfolding_all rfl) ?_ | refine ox_rt ?_ | refine ox_rn ?_ | refine ox_xx ?_
  | refine wx_eqI ?_ | refine wx_neI ?_ | refine wx_eqB ?_ | refine wx_neB ?_ | refine wx_eqS ?_ | refine wx_neS ?_ | refine wx_lt ?_ | refine wx_le ?_ | refine wx_gt ?_ | refine wx_ge ?_
  | refine wd_var (by with_unfolding_all rfl) ?_ | refine wd_varO (by with_unfolding_all rfl) ?_ | refine wo_f (by with_unfolding_all rfl) ?_ | refine wo_o (by with_unfolding_all rfl) ?_ | refine wo_p (by with_unfolding_all rfl) ?_ | refine wl_s (by with_unfolding_all rfl) ?_
  | refine wy_eq (by with_unfolding_all rfl) ?_ | refine we_eq (by with_unfolding_all rfl) ?_ | refine ⟨_, rfl, ?_⟩ | refine Exists.intro _ (And.intro rfl ?_)
  | refine and_put (by with_unfolding_all rfl) ?_ | refine and_len (by first | (with_unfolding_all decide) | (simp; done) | (simp; omega)) ?_
  | refine wx_toT (by omega) ?_ | refine wx_fromT (by omega) ?_ | refine wx_toL (by omega) ?_ | refine wx_fromL (by omega) ?_
  | refine wx_mul (by omega) ?_ | refine wx_mod (by omega) ?_ | refine wx_div (by omega) (by first | assumption | decide) ?_ | refine wx_pow (by decide) ?_ | refine wx_addT (by simp; omega) ?_ | refine wx_addL (by simp; omega) ?_
  | refine wq_isiT (by with_unfolding_all rfl) ?_ | refine wq_isiF (by with_unfolding_all rfl) ?_ | refine wc_T (by with_unfolding_all rfl) ?_ | refine wc_F (by with_unfolding_all rfl) ?_ | refine wq_len (by with_unfolding_all rfl) ?_ | refine wq_ix (by with_unfolding_all rfl) ?_ | refine wq_ixs (by with_unfolding_all rfl) ?_ | refine wm_ow (by with_unfolding_all rfl) (by with_unfolding_all rfl) ?_ | refine rf_rm (by with_unfolding_all rfl) ?_ | refine wpl_var (by with_unfolding_all rfl) ?_ | refine wq_v (by with_unfolding_all rfl) ?_ | refine ws_retO (by with_unfolding_all rfl) ?_ | refine we_appO (by with_unfolding_all rfl) (by first | (simp; done) | (simp; omega)) ?_ | refine we_appW (by with_unfolding_all rfl) (by first | (simp; done) | (simp; omega)) ?_ | refine wq_add (by with_unfolding_all rfl) ?_ | refine wq_sub (by with_unfolding_all rfl) ?_ | refine wq_neg (by with_unfolding_all rfl) ?_ | refine wq_rev (by with_unfolding_all rfl) ?_ | refine wq_cut (by with_unfolding_all rfl) ?_ | refine wq_int (by with_unfolding_all rfl) ?_ | refine wq_lst (by with_unfolding_all rfl) ?_ | refine wq_tup (by with_unfolding_all rfl) ?_ | refine wq_max (by with_unfolding_all rfl) ?_ | refine wq_min (by with_unfolding_all rfl) ?_ | refine wq_all (by with_unfolding_all rfl) ?_))
theorem wi_r2 {a b : Opd} {e : En} {Q : List D → En → Prop} (h : Wv [a, b] e fun us e => Wk us e fun ds => ∃ m n : Int, ds = [.int m, .int n] ∧ (-4611686018427387904 ≤ m ∧ m < 4611686018427387904 ∧ -4611686018427387904 ≤ n ∧ n < 4611686018427387904) ∧ Q (rng m (n - m).toNat) e) : Wi (iR2 a b) e Q := by
  obtain ⟨us, e1, h1, ds, h2, m, n, rfl, hb, k⟩ := h
  exact ⟨_, _, by simp [iR2, h1, h2]; omega, k⟩
theorem we_insO {i : Nat} {ds : List D} {x : D} {n : Int} {e : En} {Q : En → Prop} (h : e[i]? = some (.ow (.list ds))) (hl : ds.length < 100000) (h0 : 0 ≤ n) (h1 : n < 9223372036854775808) (k : Q (e.set i (.ow (.list (ds.take n.toNat ++ [x] ++ ds.drop n.toNat))))) : We (chgAt i (gInsert [.int n, x]) e) Q := by
  refine ⟨_, ?_, k⟩
  unfold chgAt
  rw [h]
  have c : ds.length < 100000 ∧ 0 ≤ n ∧ n < 2 ^ 63 := ⟨hl, h0, h1⟩
  show (gInsert [.int n, x] (.list ds)).bind _ = _
  unfold gInsert
  dsimp only
  rw [if_pos c]
  rfl
theorem rng_mem2 {m : Int} {n : Nat} {x : D} (h : x ∈ rng m n) : ∃ i : Nat, x = .int (m + i) ∧ i < n := by
  unfold rng at h
  obtain ⟨i, hi, rfl⟩ := List.mem_map.mp h
  exact ⟨i, rfl, List.mem_range.mp hi⟩
def dPrice : Sf := (sRet (op2 gIxs (.ex (eLst [(.ex (eC (.int 1))), (.ex (eC (.int 1))), (.ex (eC (.int 2))), (.ex (eC (.int 3))), (.ex (op2 gAdd (.ex (eC (.int 1))) (.ex (eCall [true, false] gTake [(.vr 0), (.ex (eC (.int 9)))])))), (.ex (op2 gAdd (.ex (eC (.int 1))) (.ex (eCall [true, false] gTake [(.vr 0), (.ex (eC (.int 99)))]))))])) (.ex (eCall [true, false] gTake [(.vr 0), (.ex (eC (.int 6)))]))))
def gPrice : List D → Option (D × List D) := gOf 1 [true] dPrice
def dWeb : Sf := (sq (sSet 2 (op2 gAdd (.ex (eC (.int 1))) (.ex (eCall [true, false] gTake [(.vr 0), (.ex (eVar 1))])))) (sq (sSetN 3 (eLst [])) (sq (sFor (tgName 4) (iR1 (.vr 2)) (sFor (tgName 5) (iR2 (.ex (op2 gAdd (.vr 4) (.ex (eC (.int 1))))) (.vr 2)) (sIf (bAnd (bD (op2 gLt (.ex (opA gLen [(.vr 3)])) (.ex (eC (.int 20))))) (bD (op2 gEq (.ex (eCall [true, false] gTake [(.vr 0), (.ex (op2 gIxs (.ex (eLst [(.ex (eC (.int 2))), (.ex (eC (.int 3)))])) (.ex (eCall [true, false] gTake [(.vr 0), (.ex (eC (.int 2)))]))))])) (.ex (eC (.int 0)))))) (sDrop (eMeth 3 gInsert [(.ex (eCall [true, false] gTake [(.vr 0), (.ex (op2 gAdd (.ex (opA gLen [(.vr 3)])) (.ex (eC (.int 1)))))])), (.ex (eTup [(.ex (eVar 4)), (.ex (eVar 5)), (.ex (eCall [true] gPrice [(.vr 0)])), (.ex (eCall [true] gPrice [(.vr 0)]))]))])) sNx))) (sRet (eTup [(.ex (eVar 2)), (.ex (eVar 3))])))))
def gWeb : List D → Option (D × List D) := gOf 6 [true, false] dWeb
theorem price_spec {P : D} (hP : IsPool P) : Wf (gPrice [P]) fun d os => ∃ (x : Int) (P' : D), d = .int x ∧ os = [P'] ∧ 1 ≤ x ∧ x ≤ 99 ∧ IsPool P' := by
  unfold gPrice dPrice
  refine wf_of rfl ?_
  walk_at "go"
  refine take_use hP (by decide) (by decide) fun x1 P1 a1 b1 hP1 => ?_
  walk_at "go"
  refine take_use hP1 (by decide) (by decide) fun x2 P2 a2 b2 hP2 => ?_
  walk_at "go"
  refine take_use hP2 (by decide) (by decide) fun x3 P3 a3 b3 hP3 => ?_
  walk_at "go"
  have all : ∀ d ∈ [PyData.int 1, .int 1, .int 2, .int 3, .int (1 + x1), .int (1 + x2)], ∃ x : Int, d = .int x ∧ 1 ≤ x ∧ x ≤ 99 := by
    intro d hd
    simp only [List.mem_cons, List.not_mem_nil, or_false] at hd
    rcases hd with rfl | rfl | rfl | rfl | rfl | rfl <;> exact ⟨_, rfl, by omega, by omega⟩
  obtain ⟨d, hd⟩ : ∃ d, [PyData.int 1, .int 1, .int 2, .int 3, .int (1 + x1), .int (1 + x2)][x3.toNat]? = some d := ⟨_, List.getElem?_eq_getElem (by simp; omega)⟩
  obtain ⟨x, rfl, h1, h2⟩ := all d (List.mem_of_getElem? hd)
  refine wx_ixsL a3 hd ?_
  walk_at "go"
  exact ⟨x, P3, rfl, rfl, h1, h2, hP3⟩
/-- a tie's houses and prices -/
abbrev Tie := Int × Int × Int × Int
def tieD (t : Tie) : D := .tuple [.int t.1, .int t.2.1, .int t.2.2.1, .int t.2.2.2]
def key (t : Tie) : Int × Int := (t.1, t.2.1)
structure Web (m : Int) (ts : List Tie) : Prop where
  lo : 1 ≤ m
  hi : m ≤ 8
  len : ts.length ≤ 20
  ok : ∀ t ∈ ts, 0 ≤ t.1 ∧ t.1 < t.2.1 ∧ t.2.1 < m ∧ 1 ≤ t.2.2.1 ∧ t.2.2.1 ≤ 99 ∧ 1 ≤ t.2.2.2 ∧ t.2.2.2 ≤ 99
  nd : (ts.map key).Nodup
def webD (m : Int) (ts : List Tie) : D := .tuple [.int m, .list (ts.map tieD)]
theorem web_spec {P : D} (hP : IsPool P) {k : Int} (k0 : 1 ≤ k) (k8 : k ≤ 8) : Wf (gWeb [P, .int k]) fun d os => ∃ (m : Int) (ts : List Tie) (P' : D), d = webD m ts ∧ os = [P'] ∧ Web m ts ∧ m ≤ k ∧ IsPool P' := by
  unfold gWeb dWeb
  refine wf_of rfl ?_
  walk_at "go"
  refine take_use hP (by omega) (by omega) fun x1 P1 a1 b1 hP1 => ?_
  walk_at "go"
  refine ⟨by omega, ?_⟩
  generalize hm : 1 + x1 = m
  have m1 : 1 ≤ m := by omega
  have m8 : m ≤ k := by omega
  clear hm
  let I : Nat → Nat → En → Prop := fun a b e => ∃ (ts : List Tie) (P : D) (s4 s5 : Sv), MP s4 ∧ MP s5 ∧ IsPool P ∧ e = [.pw P, .fz (.int k), .fz (.int m), .ow (.list (ts.map tieD)), s4, s5] ∧ Web m ts ∧ ∀ t ∈ ts, t.1 < (a : Int) ∨ (t.1 = (a : Int) ∧ t.2.1 < (b : Int))
  refine for_step (k := 0) (fun a e => I a 0 e) ⟨[], P1, .un, .un, rfl, rfl, hP1, rfl, ⟨m1, by omega, by simp, (fun t h => nomatch h), by simp⟩, (fun t h => nomatch h)⟩ ?_ ?_
  · rintro a x _ hx ⟨ts, P2, s4, s5, q4, q5, hP2, rfl, W, lt⟩
    obtain ⟨ha, rfl⟩ := rng_get hx
    simp only [Nat.zero_add, Int.zero_add] at lt ⊢
    refine put_one (s := s4) q4 ?_
    walk_at "go"
    refine wi_r2 ?_
    walk_at "go"
    refine ⟨_, _, rfl, by omega, ?_⟩
    walk_at "go"
    refine for_step (k := a + 1) (Q := Rs.onX (I (a + 1) 0) _) (fun b e => ∃ (ts : List Tie) (P : D) (s5 : Sv), MP s5 ∧ IsPool P ∧ e = [.pw P, .fz (.int k), .fz (.int m), .ow (.list (ts.map tieD)), .fz (.int (a : Int)), s5] ∧ Web m ts ∧ ∀ t ∈ ts, t.1 < (a : Int) ∨ (t.1 = (a : Int) ∧ t.2.1 < (b : Int))) ⟨ts, P2, s5, q5, hP2, rfl, W, fun t ht => by have := lt t ht; omega⟩ ?_ ?_
    · rintro b x _ hx ⟨ts, P3, s5, q5, hP3, rfl, W, lt⟩
      obtain ⟨hb, rfl⟩ := rng_get hx
      refine put_one (s := s5) q5 ?_
      walk_at "go"
      refine wc_s (fun q => ?_) (fun q => ?_)
      · walk_at "go"
        refine take_use hP3 (by decide) (by decide) fun x1 P4 a1 b1 hP4 => ?_
        walk_at "go"
        obtain ⟨d, hd⟩ : ∃ d, [PyData.int 2, .int 3][x1.toNat]? = some d := ⟨_, List.getElem?_eq_getElem (by simp; omega)⟩
        obtain ⟨n, rfl, n2, n3⟩ : ∃ n : Int, d = .int n ∧ 2 ≤ n ∧ n ≤ 3 := by
          have := List.mem_of_getElem? hd
          simp only [List.mem_cons, List.not_mem_nil, or_false] at this
          rcases this with rfl | rfl <;> exact ⟨_, rfl, by decide, by decide⟩
        refine wx_ixsL a1 hd ?_
        walk_at "go"
        refine take_use hP4 (by omega) (by omega) fun x2 P5 a2 b2 hP5 => ?_
        walk_at "go"
        refine wc_s (fun q2 => ?_) (fun q2 => ?_)
        · walk_at "go"
          refine take_use hP5 (by omega) (by simp at q ⊢; omega) fun x3 P6 a3 b3 hP6 => ?_
          walk_at "go"
          refine wf_use (price_spec hP6) ?_
          rintro _ _ ⟨p, P7, rfl, rfl, p1, p2, hP7⟩
          walk_at "go"
          refine wf_use (price_spec hP7) ?_
          rintro _ _ ⟨p', P8, rfl, rfl, p1', p2', hP8⟩
          walk_at "go"
          simp only [decide_eq_true_eq, List.length_map] at q b3
          have e1 : ((a + 1 : Nat) : Int) + (b : Int) = (a : Int) + 1 + b := by omega
          have eT : (ts.map tieD).take x3.toNat ++ [PyData.tuple [.int (a : Int), .int ((a : Int) + 1 + b), .int p, .int p']] ++ (ts.map tieD).drop x3.toNat = (ts.take x3.toNat ++ [(((a : Int), ((a + 1 : Nat) : Int) + (b : Int), p, p') : Tie)] ++ ts.drop x3.toNat).map tieD := by
            rw [e1]
            simp [List.map_take, List.map_drop, tieD]
          refine we_insO (by with_unfolding_all rfl) (by simp; omega) a3 (by omega) ?_
          rw [eT]
          refine ⟨_, P8, _, rfl, hP8, rfl, ⟨m1, W.hi, ?_, ?_, ?_⟩, ?_⟩
          · simp; omega
          · intro t ht
            simp only [List.append_assoc, List.singleton_append, List.mem_append, List.mem_cons] at ht
            rcases ht with ht | rfl | ht
            · exact W.ok t (List.mem_of_mem_take ht)
            · refine ⟨?_, ?_, ?_, p1, p2, p1', p2'⟩ <;> simp <;> omega
            · exact W.ok t (List.mem_of_mem_drop ht)
          · have nd := W.nd
            rw [← List.take_append_drop x3.toNat ts, List.map_append, List.nodup_append] at nd
            obtain ⟨n1, n2, n3⟩ := nd
            have fresh : ∀ t ∈ ts, key t ≠ ((a : Int), ((a + 1 : Nat) : Int) + (b : Int)) := fun t ht z => by
              have h1 := congrArg Prod.fst z
              have h2 := congrArg Prod.snd z
              simp only [key] at h1 h2
              have := lt t ht
              omega
            simp only [List.append_assoc, List.singleton_append, List.map_append, List.map_cons]
            rw [List.nodup_append]
            refine ⟨n1, List.nodup_cons.mpr ⟨fun z => ?_, n2⟩, fun x hx y hy z => ?_⟩
            · obtain ⟨t, ht, e⟩ := List.mem_map.mp z
              exact fresh t (List.mem_of_mem_drop ht) e
            · rcases List.mem_cons.mp hy with rfl | hy
              · obtain ⟨t, ht, e⟩ := List.mem_map.mp hx
                exact fresh t (List.mem_of_mem_take ht) (e.trans z)
              · exact n3 x hx y hy z
          · intro t ht
            simp only [List.append_assoc, List.singleton_append, List.mem_append, List.mem_cons] at ht
            rcases ht with ht | rfl | ht
            · have := lt t (List.mem_of_mem_take ht); omega
            · right; simp; omega
            · have := lt t (List.mem_of_mem_drop ht); omega
        · walk_at "go"
          exact ⟨ts, P5, _, rfl, hP5, rfl, W, fun t ht => by have := lt t ht; omega⟩
      · walk_at "go"
        exact ⟨ts, P3, _, rfl, hP3, rfl, W, fun t ht => by have := lt t ht; omega⟩
    · rintro _ ⟨ts, P3, s5, q5, hP3, rfl, W, lt⟩
      exact ⟨ts, P3, _, s5, rfl, q5, hP3, rfl, W, fun t ht => by
        have := lt t ht
        have := W.ok t ht
        omega⟩
  · rintro _ ⟨ts, P2, s4, s5, q4, q5, hP2, rfl, W, lt⟩
    walk_at "go"
    exact ⟨m, ts, P2, rfl, rfl, W, m8, hP2⟩
end DL

namespace K02
open PySem L2 DL
local macro_rules | `(tactic| walk_at "go") => `(tactic| repeat (with_reducible first
  | refine wo_ex ?_ | refine wl_f ?_ | refine wd_c ?_ | refine wd_op2 ?_ | refine wd_get1 ?_ | refine wd_dc ?_ | refine wi_k ?_ | refine wd_get2 ?_ | refine wd_fz ?_ | refine wd_methR ?_ | refine wm_f ?_ | refine wm_n ?_ | refine wm_tup ?_ | refine wm_call ?_ | refine wms_nil ?_ | refine wms_cons ?_ | refine ws_setT ?_ | refine ws_retT ?_ | refine ws_putD ?_ | refine rg_rm ?_ | refine rw_rt ?_ | refine rw_rn ?_ | refine rw_rm ?_ | refine and_lenM (by simp) (by simp) ?_ | refine wx_isN ?_ | refine wd_disp (by decide) ?_ | refine evp_nil ?_ | refine evp_cons ?_ | refine wd_appP ?_ | refine wpl_sub ?_ | refine wq_c ?_ | refine wd_op1 ?_ | refine wd_opA ?_ | refine wv_nil ?_ | refine wv_cons ?_ | refine wk_nil ?_ | refine wk_cons ?_
  | refine wc_t ?_ | refine wc_f ?_ | refine wb_d ?_ | refine wb_and ?_ | refine wb_or ?_ | refine wb_not ?_ | refine wb_tt ?_ | refine wd_and ?_ | refine wd_or ?_ | refine wd_not ?_ | refine wd_if ?_ | refine wd_chain ?_
  | refine wd_tup ?_ | refine wd_lst ?_ | refine wd_call ?_ | refine wd_meth ?_ | refine wd_slice ?_ | refine wp_no ?_ | refine wp_at ?_ | refine wd_dict0 ?_ | refine wd_lc ?_ | refine wi_l ?_ | refine wi_t ?_ | refine wi_enT ?_ | refine wi_enL ?_ | refine wi_zipT ?_ | refine wi_r1 ?_
  | refine ws_seq ?_ | refine ws_nx ?_ | refine ws_if ?_ | refine ws_set ?_ | refine ws_setN ?_ | refine ws_drop ?_ | refine ws_ret ?_ | refine ws_retN ?_ | refine ws_unp ?_ | refine ws_setIx ?_ | refine ws_for ?_
  | refine rg_nx ?_ | refine rg_rt ?_ | refine rg_rn ?_ | refine rf_nx ?_ | refine rf_rt ?_ | refine rf_rn ?_
  | refine ws_try ?_ | refine tr_nx ?_ | refine tr_rt ?_ | refine tr_xx ?_ | refine rg_xx ?_ | refine ws_raise ?_ | refine ws_raise0 ?_ | refine ws_dropX ?_ | refine ws_retX ?_ | refine wz_call ?_ | refine pk_yes (by with_unfolding_all rfl) (by with_unfolding_all rfl) ?_ | refine pk_no (by with_unfolding_all rfl) ?_ | refine co_nx (by with_unfolding_all rfl) ?_ | refine co_rt ?_ | refine co_rn ?_ | refine rx_nx (by with_unfolding_all rfl) ?_ | refine rx_rt (by with_unfolding_all rfl) ?_ | refine rx_xx (by with_unfolding_all rfl) ?_ | refine wq_isX (by with_unfolding_all rfl) ?_ | refine wq_xf (by with_unfolding_all rfl) ?_ | refine ox_rt ?_ | refine ox_rn ?_ | refine ox_xx ?_
  | refine wx_eqI ?_ | refine wx_neI ?_ | refine wx_eqB ?_ | refine wx_neB ?_ | refine wx_eqS ?_ | refine wx_neS ?_ | refine wx_lt ?_ | refine wx_le ?_ | refine wx_gt ?_ | refine wx_ge ?_
  | refine wd_var (by with_unfolding_all rfl) ?_ | refine wd_varO (by with_unfolding_all rfl) ?_ | refine wo_f (by with_unfolding_all rfl) ?_ | refine wo_o (by with_unfolding_all rfl) ?_ | refine wo_p (by with_unfolding_all rfl) ?_ | refine wl_s (by with_unfolding_all rfl) ?_
  | refine wy_eq (by with_unfolding_all rfl) ?_ | refine we_eq (by with_unfolding_all rfl) ?_ | refine ⟨_, rfl, ?_⟩ | refine Exists.intro _ (And.intro rfl ?_)
  | refine and_put (by with_unfolding_all rfl) ?_ | refine and_len (by first | (with_unfolding_all decide) | (simp; done) | (simp; omega)) ?_
  | refine wx_toT (by omega) ?_ | refine wx_fromT (by omega) ?_ | refine wx_toL (by omega) ?_ | refine wx_fromL (by omega) ?_
  | refine wx_mul (by omega) ?_ | refine wx_mod (by omega) ?_ | refine wx_div (by omega) (by first | assumption | decide) ?_ | refine wx_pow (by decide) ?_ | refine wx_addT (by simp; omega) ?_ | refine wx_addL (by simp; omega) ?_
  | refine wq_isiT (by with_unfolding_all rfl) ?_ | refine wq_isiF (by with_unfolding_all rfl) ?_ | refine wc_T (by with_unfolding_all rfl) ?_ | refine wc_F (by with_unfolding_all rfl) ?_ | refine wq_len (by with_unfolding_all rfl) ?_ | refine wq_ix (by with_unfolding_all rfl) ?_ | refine wq_ixs (by with_unfolding_all rfl) ?_ | refine wm_ow (by with_unfolding_all rfl) (by with_unfolding_all rfl) ?_ | refine rf_rm (by with_unfolding_all rfl) ?_ | refine wpl_var (by with_unfolding_all rfl) ?_ | refine wq_v (by with_unfolding_all rfl) ?_ | refine ws_retO (by with_unfolding_all rfl) ?_ | refine we_appO (by with_unfolding_all rfl) (by first | (simp; done) | (simp; omega)) ?_ | refine we_appW (by with_unfolding_all rfl) (by first | (simp; done) | (simp; omega)) ?_ | refine wq_add (by with_unfolding_all rfl) ?_ | refine wq_sub (by with_unfolding_all rfl) ?_ | refine wq_neg (by with_unfolding_all rfl) ?_ | refine wq_rev (by with_unfolding_all rfl) ?_ | refine wq_cut (by with_unfolding_all rfl) ?_ | refine wq_int (by with_unfolding_all rfl) ?_ | refine wq_lst (by with_unfolding_all rfl) ?_ | refine wq_tup (by with_unfolding_all rfl) ?_ | refine wq_max (by with_unfolding_all rfl) ?_ | refine wq_min (by with_unfolding_all rfl) ?_ | refine wq_all (by with_unfolding_all rfl) ?_))
def isInt : D → Bool
  | .int _ => true
  | _ => false
theorem e_is_whole (d : D) (h : plainTy d = true) : Tells (g_is_whole [d]) (isInt d) := by
  unfold g_is_whole d_is_whole
  refine wf_of rfl ?_
  walk_at "go"
  refine wq_isi (isi_def _ _ h) ?_
  cases d with
  | int i => walk_at "go"; exact ⟨rfl, rfl⟩
  | bool b => walk_at "go"; exact ⟨rfl, rfl⟩
  | _ => walk_at "go"; exact ⟨rfl, rfl⟩
def isIn (m n : Int) : D → Bool
  | .int i => decide (m ≤ i) && decide (i < n)
  | _ => false
theorem e_is_house (n : Int) (d : D) (h : plainTy d = true) : Tells (g_is_house [.int n, d]) (isIn 0 n d) := by
  unfold g_is_house d_is_house
  refine wf_of rfl ?_
  walk_at "go"
  refine (e_is_whole d h).use ?_
  cases d with
  | int i =>
    walk_at "go"
    refine wc_s (fun h => ?_) (fun h => ?_) <;> walk_at "go" <;> exact ⟨by simp_all [isIn]; try omega, rfl⟩
  | _ => walk_at "go"; exact ⟨rfl, rfl⟩
theorem e_is_price (d : D) (h : plainTy d = true) : Tells (g_is_price [d]) (isIn 1 100 d) := by
  unfold g_is_price d_is_price
  refine wf_of rfl ?_
  walk_at "go"
  refine (e_is_whole d h).use ?_
  cases d with
  | int i =>
    walk_at "go"
    refine wc_s (fun h => ?_) (fun h => ?_) <;> walk_at "go" <;> exact ⟨by simp_all [isIn]; try omega, rfl⟩
  | _ => walk_at "go"; exact ⟨rfl, rfl⟩
theorem isIn_int {m n : Int} {d : D} (h : isIn m n d = true) : ∃ i, d = .int i ∧ m ≤ i ∧ i < n := by
  cases d <;> simp [isIn] at h
  exact ⟨_, rfl, h⟩
/-- a tie: its two houses -/
def okT (m : Int) : D → Option (List Int)
  | .tuple [.int a, .int b, .int p, .int q] => if (decide (0 ≤ a) && decide (a < m) && (decide (0 ≤ b) && decide (b < m)) && decide (a < b) && (decide (1 ≤ p) && decide (p < 100)) && (decide (1 ≤ q) && decide (q < 100))) = true then some [a, b] else none
  | _ => none
theorem okT_not {m : Int} {xs : List D} (q : (!((xs.length : Int) == 4)) = true) : okT m (.tuple xs) = none := by
  unfold okT
  split
  · rename_i h
    cases h
    simp at q
  · rfl
theorem okT_any {m : Int} {a b p q : D} (h : (isIn 0 m a && (isIn 0 m b && (match a, b with | .int i, .int j => decide (i < j) | _, _ => false) && (isIn 1 100 p && isIn 1 100 q))) = false) : okT m (.tuple [a, b, p, q]) = none := by
  cases a <;> cases b <;> cases p <;> cases q <;> try rfl
  simp only [isIn] at h
  unfold okT
  dsimp only
  rw [if_neg]
  intro z
  simp only [Bool.and_eq_true] at z
  simp [z] at h
theorem okT_yes {m : Int} {a b p q : Int} (h1 : isIn 0 m (.int a) = true) (h2 : isIn 0 m (.int b) = true) (h3 : a < b) (h4 : isIn 1 100 (.int p) = true) (h5 : isIn 1 100 (.int q) = true) : okT m (.tuple [.int a, .int b, .int p, .int q]) = some [a, b] := by
  simp only [isIn, Bool.and_eq_true, decide_eq_true_eq] at h1 h2 h4 h5
  unfold okT
  dsimp only
  rw [if_pos]
  simp [h1, h2, h3, h4, h5]
theorem four {xs : List D} (q : (!((xs.length : Int) == 4)) = false) : ∃ a b c d, xs = [a, b, c, d] := by
  match xs with
  | [] => simp at q
  | [_] => simp at q
  | [_, _] => simp at q
  | [_, _, _] => simp at q
  | [a, b, c, d] => exact ⟨a, b, c, d, rfl⟩
  | _ :: _ :: _ :: _ :: _ :: _ => simp at q; omega
/-- a plain thing, of plain parts if it is a tuple -/
def Pt (d : D) : Prop := plainTy d = true ∧ ∀ xs, d = .tuple xs → ∀ y ∈ xs, plainTy y = true
theorem e_is_tie (m : Int) (d : D) (hd : Pt d) : Tells (g_is_tie [.int m, d]) (okT m d).isSome := by
  unfold g_is_tie d_is_tie
  refine wf_of rfl ?_
  walk_at "go"
  refine wq_isi (isi_def _ _ hd.1) ?_
  cases d with
  | tuple xs =>
    have hx := hd.2 xs rfl
    walk_at "go"
    refine wc_s (fun q => ?_) (fun q => ?_)
    · walk_at "go"
      exact ⟨by rw [okT_not q]; rfl, rfl⟩
    · obtain ⟨a, b, c, d, rfl⟩ := four q
      walk_at "go"
      refine (e_is_house m a (hx a (by simp))).use ?_
      walk_at "go"
      refine wc_s (fun q1 => ?_) (fun q1 => ?_)
      · walk_at "go"
        exact ⟨by rw [okT_any (by simp at q1; simp [q1])]; rfl, rfl⟩
      · walk_at "go"
        refine (e_is_house m b (hx b (by simp))).use ?_
        walk_at "go"
        refine wc_s (fun q2 => ?_) (fun q2 => ?_)
        · walk_at "go"
          exact ⟨by rw [okT_any (by simp at q2; simp [q2])]; rfl, rfl⟩
        · simp only [Bool.not_eq_false'] at q1 q2
          obtain ⟨i, rfl, i1, i2⟩ := isIn_int q1
          obtain ⟨j', rfl, j1, j2⟩ := isIn_int q2
          walk_at "go"
          refine wc_s (fun q3 => ?_) (fun q3 => ?_)
          · walk_at "go"
            exact ⟨by rw [okT_any (by simp only [decide_eq_true_eq] at q3; simp; intros; omega)]; rfl, rfl⟩
          · walk_at "go"
            refine (e_is_price c (hx c (by simp))).use ?_
            walk_at "go"
            refine wc_s (fun q4 => ?_) (fun q4 => ?_)
            · walk_at "go"
              refine (e_is_price d (hx d (by simp))).use ?_
              walk_at "go"
              refine ⟨?_, rfl⟩
              cases q5 : isIn 1 100 d with
              | false => rw [okT_any (by simp [q5])]; rfl
              | true =>
                obtain ⟨p, rfl, _⟩ := isIn_int q4
                obtain ⟨p', rfl, _⟩ := isIn_int q5
                rw [okT_yes q1 q2 (by simp only [decide_eq_false_iff_not] at q3; omega) q4 q5]
                rfl
            · walk_at "go"
              exact ⟨by rw [okT_any (by simp [q4])]; rfl, rfl⟩
  | _ => walk_at "go"; exact ⟨rfl, rfl⟩
end K02

namespace K02
open PySem L2 DL TT
local macro_rules | `(tactic| walk_at "go") => `(tactic| repeat (with_reducible first
  | refine wo_ex ?_ | refine wl_f ?_ | refine wd_c ?_ | refine wd_op2 ?_ | refine wd_get1 ?_ | refine wd_dc ?_ | refine wi_k ?_ | refine wd_get2 ?_ | refine wd_fz ?_ | refine wd_methR ?_ | refine wm_f ?_ | refine wm_n ?_ | refine wm_tup ?_ | refine wm_call ?_ | refine wms_nil ?_ | refine wms_cons ?_ | refine ws_setT ?_ | refine ws_retT ?_ | refine ws_putD ?_ | refine rg_rm ?_ | refine rw_rt ?_ | refine rw_rn ?_ | refine rw_rm ?_ | refine and_lenM (by simp) (by simp) ?_ | refine wx_isN ?_ | refine wd_disp (by decide) ?_ | refine evp_nil ?_ | refine evp_cons ?_ | refine wd_appP ?_ | refine wpl_sub ?_ | refine wq_c ?_ | refine wd_op1 ?_ | refine wd_opA ?_ | refine wv_nil ?_ | refine wv_cons ?_ | refine wk_nil ?_ | refine wk_cons ?_
  | refine wc_t ?_ | refine wc_f ?_ | refine wb_d ?_ | refine wb_and ?_ | refine wb_or ?_ | refine wb_not ?_ | refine wb_tt ?_ | refine wd_and ?_ | refine wd_or ?_ | refine wd_not ?_ | refine wd_if ?_ | refine wd_chain ?_
  | refine wd_tup ?_ | refine wd_lst ?_ | refine wd_call ?_ | refine wd_meth ?_ | refine wd_slice ?_ | refine wp_no ?_ | refine wp_at ?_ | refine wd_dict0 ?_ | refine wd_lc ?_ | refine wi_l ?_ | refine wi_t ?_ | refine wi_enT ?_ | refine wi_enL ?_ | refine wi_zipT ?_ | refine wi_r1 ?_
  | refine ws_seq ?_ | refine ws_nx ?_ | refine ws_if ?_ | refine ws_set ?_ | refine ws_setN ?_ | refine ws_drop ?_ | refine ws_ret ?_ | refine ws_retN ?_ | refine ws_unp ?_ | refine ws_setIx ?_ | refine ws_for ?_
  | refine rg_nx ?_ | refine rg_rt ?_ | refine rg_rn ?_ | refine rf_nx ?_ | refine rf_rt ?_ | refine rf_rn ?_
  | refine ws_try ?_ | refine tr_nx ?_ | refine tr_rt ?_ | refine tr_xx ?_ | refine rg_xx ?_ | refine ws_raise ?_ | refine ws_raise0 ?_ | refine ws_dropX ?_ | refine ws_retX ?_ | refine wz_call ?_ | refine pk_yes (by with_unfolding_all rfl) (by with_unfolding_all rfl) ?_ | refine pk_no (by with_unfolding_all rfl) ?_ | refine co_nx (by with_unfolding_all rfl) ?_ | refine co_rt ?_ | refine co_rn ?_ | refine rx_nx (by with_unfolding_all rfl) ?_ | refine rx_rt (by with_unfolding_all rfl) ?_ | refine rx_xx (by with_unfolding_all rfl) ?_ | refine wq_isX (by with_unfolding_all rfl) ?_ | refine wq_xf (by with_unfolding_all rfl) ?_ | refine ox_rt ?_ | refine ox_rn ?_ | refine ox_xx ?_
  | refine wx_eqI ?_ | refine wx_neI ?_ | refine wx_eqB ?_ | refine wx_neB ?_ | refine wx_eqS ?_ | refine wx_neS ?_ | refine wx_lt ?_ | refine wx_le ?_ | refine wx_gt ?_ | refine wx_ge ?_
  | refine wd_var (by with_unfolding_all rfl) ?_ | refine wd_varO (by with_unfolding_all rfl) ?_ | refine wo_f (by with_unfolding_all rfl) ?_ | refine wo_o (by with_unfolding_all rfl) ?_ | refine wo_p (by with_unfolding_all rfl) ?_ | refine wl_s (by with_unfolding_all rfl) ?_
  | refine wy_eq (by with_unfolding_all rfl) ?_ | refine we_eq (by with_unfolding_all rfl) ?_ | refine ⟨_, rfl, ?_⟩ | refine Exists.intro _ (And.intro rfl ?_)
  | refine and_put (by with_unfolding_all rfl) ?_ | refine and_len (by first | (with_unfolding_all decide) | (simp; done) | (simp; omega)) ?_
  | refine wx_toT (by omega) ?_ | refine wx_fromT (by omega) ?_ | refine wx_toL (by omega) ?_ | refine wx_fromL (by omega) ?_
  | refine wx_mul (by omega) ?_ | refine wx_mod (by omega) ?_ | refine wx_div (by omega) (by first | assumption | decide) ?_ | refine wx_pow (by decide) ?_ | refine wx_addT (by simp; omega) ?_ | refine wx_addL (by simp; omega) ?_
  | refine wq_isiT (by with_unfolding_all rfl) ?_ | refine wq_isiF (by with_unfolding_all rfl) ?_ | refine wc_T (by with_unfolding_all rfl) ?_ | refine wc_F (by with_unfolding_all rfl) ?_ | refine wq_len (by with_unfolding_all rfl) ?_ | refine wq_ix (by with_unfolding_all rfl) ?_ | refine wq_ixs (by with_unfolding_all rfl) ?_ | refine wm_ow (by with_unfolding_all rfl) (by with_unfolding_all rfl) ?_ | refine rf_rm (by with_unfolding_all rfl) ?_ | refine wpl_var (by with_unfolding_all rfl) ?_ | refine wq_v (by with_unfolding_all rfl) ?_ | refine ws_retO (by with_unfolding_all rfl) ?_ | refine we_appO (by with_unfolding_all rfl) (by first | (simp; done) | (simp; omega)) ?_ | refine we_appW (by with_unfolding_all rfl) (by first | (simp; done) | (simp; omega)) ?_ | refine wq_add (by with_unfolding_all rfl) ?_ | refine wq_sub (by with_unfolding_all rfl) ?_ | refine wq_neg (by with_unfolding_all rfl) ?_ | refine wq_rev (by with_unfolding_all rfl) ?_ | refine wq_cut (by with_unfolding_all rfl) ?_ | refine wq_int (by with_unfolding_all rfl) ?_ | refine wq_lst (by with_unfolding_all rfl) ?_ | refine wq_tup (by with_unfolding_all rfl) ?_ | refine wq_max (by with_unfolding_all rfl) ?_ | refine wq_min (by with_unfolding_all rfl) ?_ | refine wq_all (by with_unfolding_all rfl) ?_))
/-- the first tie that is none -/
def fb (m : Int) : List D → List (List Int) → Nat → Option Nat
  | [], _, _ => none
  | x :: r, s, n => match okT m x with
    | none => some n
    | some k => if k ∈ s then some n else fb m r (s ++ [k]) (n + 1)
/-- what is no web: its number -/
def dueR : D → Option D
  | .tuple [.int m, .list ts] => if (decide (1 ≤ m) && decide (m ≤ 8) && decide (ts.length ≤ 20)) = true then (fb m ts [] 0).map fun n => .int (n : Nat) else some .none
  | _ => some .none
def lookR : Option D → D ⊕ Ex
  | none => .inl .none
  | some n => .inr ⟨"NoWeb", some ("number", n)⟩
/-- a plain thing: of two plain parts, the second one a list of such as Pt -/
def Th (d : D) : Prop := plainTy d = true ∧ ∀ m ts, d = .tuple [m, ts] → plainTy m = true ∧ plainTy ts = true ∧ ∀ xs, ts = .list xs → ∀ x ∈ xs, Pt x
theorem two {xs : List D} (q : (!((xs.length : Int) == 2)) = false) : ∃ a b, xs = [a, b] := by
  match xs with
  | [] => simp at q
  | [_] => simp at q
  | [a, b] => exact ⟨a, b, rfl⟩
  | _ :: _ :: _ :: _ => simp at q; omega
theorem due_not {xs : List D} (q : (!((xs.length : Int) == 2)) = true) : dueR (.tuple xs) = some .none := by
  unfold dueR
  split
  · rename_i h
    cases h
    simp at q
  · rfl
theorem okT_shape {m : Int} {x : D} {k : List Int} (h : okT m x = some k) : ∃ a b p q : Int, x = .tuple [.int a, .int b, .int p, .int q] ∧ k = [a, b] := by
  unfold okT at h
  split at h
  · split at h
    · cases h; exact ⟨_, _, _, _, rfl, rfl⟩
    · cases h
  · cases h
theorem fb_step {m : Int} {ts : List D} {x : D} {s : List (List Int)} {i : Nat} (h : ts[i]? = some x) : fb m (ts.drop i) s i = match okT m x with
    | none => some i
    | some k => if k ∈ s then some i else fb m (ts.drop (i + 1)) (s ++ [k]) (i + 1) := by
  obtain ⟨hi, e⟩ := List.getElem?_eq_some_iff.mp h
  rw [List.drop_eq_getElem_cons hi, e]
  rfl
theorem e_look (d : D) (hd : Th d) : Wfx (g_look_at_web [d]) fun r os => r = lookR (dueR d) ∧ os = [] := by
  unfold g_look_at_web d_look_at_web
  refine wfx_of rfl ?_
  walk_at "go"
  refine wq_isi (isi_def _ _ hd.1) ?_
  cases d with
  | tuple xs =>
    walk_at "go"
    refine wc_s (fun q => ?_) (fun q => ?_)
    · walk_at "go"
      exact ⟨by rw [due_not q]; rfl, rfl⟩
    obtain ⟨m, ts, rfl⟩ := two q
    obtain ⟨h1, h2, h3⟩ := hd.2 m ts rfl
    walk_at "go"
    refine (e_is_whole m h1).use ?_
    walk_at "go"
    cases m with
    | int m =>
      walk_at "go"
      refine wc_s (fun q1 => ?_) (fun q1 => ?_)
      · walk_at "go"
        refine wc_s (fun q2 => ?_) (fun q2 => ?_)
        · walk_at "go"
          refine ⟨?_, rfl⟩
          simp only [Bool.not_eq_true', decide_eq_false_iff_not, decide_eq_true_eq] at q1 q2
          unfold dueR
          split
          · rename_i h; cases h
            rw [if_neg (by simp; omega)]; rfl
          · rfl
        · walk_at "go"
          refine wq_isi (isi_def _ _ h2) ?_
          walk_at "go"
          cases ts with
          | list ts =>
            walk_at "go"
            refine wc_s (fun q3 => ?_) (fun q3 => ?_)
            · walk_at "go"
              refine ⟨?_, rfl⟩
              simp only [decide_eq_true_eq] at q3
              show _ = lookR (if _ then _ else _)
              rw [if_neg (by simp; omega)]; rfl
            · simp only [decide_eq_true_eq, Bool.not_eq_false', decide_eq_false_iff_not] at q1 q2 q3
              have eD : dueR (.tuple [.int m, .list ts]) = (fb m ts [] 0).map fun n => .int (n : Nat) := by
                show (if _ then _ else _) = _
                rw [if_pos (by simp; omega)]
              walk_at "go"
              refine ⟨_, _, rfl, ?_⟩
              walk_at "go"
              refine for_step (k := 0) (fun k e => ∃ (s : List (List Int)) (s4 s5 : Sv), MP s4 ∧ MP s5 ∧ e = [.fz (.tuple [.int m, .list ts]), .fz (.int m), .fz (.list ts), .ow (.dict ((.bool true, .none) :: tupE s)), s4, s5] ∧ s.length = k ∧ fb m (ts.drop k) s k = fb m ts [] 0)
                ⟨[], .un, .un, rfl, rfl, rfl, rfl, rfl⟩ ?_ ?_
              · rintro i x _ hx ⟨s, s4, s5, m4, m5, rfl, sl, hf⟩
                obtain ⟨y, hy, rfl⟩ := numbered_get hx
                simp only [Nat.zero_add] at hf sl ⊢
                have py : Pt y := h3 ts rfl y (List.mem_of_getElem? hy)
                rw [fb_step hy] at hf
                refine we_eq (ds := [.fz (.tuple [.int m, .list ts]), .fz (.int m), .fz (.list ts), .ow (.dict ((.bool true, .none) :: tupE s)), .fz (.int (i : Nat)), .fz y]) ?_ ?_
                · simp [tgTup, tgsCons, tgsNil, tgName, put, m4, m5]
                walk_at "go"
                refine (e_is_tie m y py).use ?_
                walk_at "go"
                cases ok : okT m y with
                | none =>
                  rw [ok] at hf
                  refine wc_T (by simp) ?_
                  walk_at "go"
                  exact ⟨by rw [eD, ← hf]; rfl, rfl⟩
                | some k =>
                  rw [ok] at hf
                  obtain ⟨a, b, p, q, rfl, rfl⟩ := okT_shape ok
                  refine wc_F (by simp) ?_
                  walk_at "go"
                  refine wq_in (in_tups (b := [a, b])) ?_
                  walk_at "go"
                  refine wc_s (fun q4 => ?_) (fun q4 => ?_)
                  · walk_at "go"
                    simp only [decide_eq_true_eq] at q4
                    simp only [q4, if_true] at hf
                    exact ⟨by rw [eD, ← hf]; rfl, rfl⟩
                  · simp only [decide_eq_false_iff_not] at q4
                    simp only [q4, if_false] at hf
                    walk_at "go"
                    refine wx_eq rfl ?_
                    walk_at "go"
                    refine we_putO (by with_unfolding_all rfl) (put_tup (b := [a, b]) (by
                      have := (List.getElem?_eq_some_iff.mp hy).1
                      omega)) ?_
                    rw [if_neg q4]
                    exact ⟨s ++ [[a, b]], _, _, rfl, rfl, rfl, by simp [sl], hf⟩
              · rintro _ ⟨s, s4, s5, m4, m5, rfl, sl, hf⟩
                walk_at "go"
                refine ⟨?_, rfl⟩
                rw [eD, ← hf, numbered_len, Nat.zero_add, List.drop_eq_nil_of_le (Nat.le_refl _)]
                rfl
          | _ => walk_at "go"; exact ⟨rfl, rfl⟩
      · walk_at "go"
        refine ⟨?_, rfl⟩
        simp only [decide_eq_false_iff_not] at q1
        unfold dueR
        split
        · rename_i h; cases h
          rw [if_neg (by simp; omega)]; rfl
        · rfl
    | _ => walk_at "go"; exact ⟨rfl, rfl⟩
  | _ => walk_at "go"; exact ⟨rfl, rfl⟩
end K02

namespace K02
open PySem L2 DL TT
local macro_rules | `(tactic| walk_at "go") => `(tactic| repeat (with_reducible first
  | refine wo_ex ?_ | refine wl_f ?_ | refine wd_c ?_ | refine wd_op2 ?_ | refine wd_get1 ?_ | refine wd_dc ?_ | refine wi_k ?_ | refine wd_get2 ?_ | refine wd_fz ?_ | refine wd_methR ?_ | refine wm_f ?_ | refine wm_n ?_ | refine wm_tup ?_ | refine wm_call ?_ | refine wms_nil ?_ | refine wms_cons ?_ | refine ws_setT ?_ | refine ws_retT ?_ | refine ws_putD ?_ | refine rg_rm ?_ | refine rw_rt ?_ | refine rw_rn ?_ | refine rw_rm ?_ | refine and_lenM (by simp) (by simp) ?_ | refine wx_isN ?_ | refine wd_disp (by decide) ?_ | refine evp_nil ?_ | refine evp_cons ?_ | refine wd_appP ?_ | refine wpl_sub ?_ | refine wq_c ?_ | refine wd_op1 ?_ | refine wd_opA ?_ | refine wv_nil ?_ | refine wv_cons ?_ | refine wk_nil ?_ | refine wk_cons ?_
  | refine wc_t ?_ | refine wc_f ?_ | refine wb_d ?_ | refine wb_and ?_ | refine wb_or ?_ | refine wb_not ?_ | refine wb_tt ?_ | refine wd_and ?_ | refine wd_or ?_ | refine wd_not ?_ | refine wd_if ?_ | refine wd_chain ?_
  | refine wd_tup ?_ | refine wd_lst ?_ | refine wd_call ?_ | refine wd_meth ?_ | refine wd_slice ?_ | refine wp_no ?_ | refine wp_at ?_ | refine wd_dict0 ?_ | refine wd_lc ?_ | refine wi_l ?_ | refine wi_t ?_ | refine wi_enT ?_ | refine wi_enL ?_ | refine wi_zipT ?_ | refine wi_r1 ?_
  | refine ws_seq ?_ | refine ws_nx ?_ | refine ws_if ?_ | refine ws_set ?_ | refine ws_setN ?_ | refine ws_drop ?_ | refine ws_ret ?_ | refine ws_retN ?_ | refine ws_unp ?_ | refine ws_setIx ?_ | refine ws_for ?_
  | refine rg_nx ?_ | refine rg_rt ?_ | refine rg_rn ?_ | refine rf_nx ?_ | refine rf_rt ?_ | refine rf_rn ?_
  | refine ws_try ?_ | refine tr_nx ?_ | refine tr_rt ?_ | refine tr_xx ?_ | refine rg_xx ?_ | refine ws_raise ?_ | refine ws_raise0 ?_ | refine ws_dropX ?_ | refine ws_retX ?_ | refine wz_call ?_ | refine pk_yes (by with_unfolding_all rfl) (by with_unfolding_all rfl) ?_ | refine pk_no (by with_unfolding_all rfl) ?_ | refine co_nx (by with_unfolding_all rfl) ?_ | refine co_rt ?_ | refine co_rn ?_ | refine rx_nx (by with_unfolding_all rfl) ?_ | refine rx_rt (by with_unfolding_all rfl) ?_ | refine rx_xx (by with_unfolding_all rfl) ?_ | refine wq_isX (by with_unfolding_all rfl) ?_ | refine wq_xf (by with_unfolding_all rfl) ?_ | refine ox_rt ?_ | refine ox_rn ?_ | refine ox_xx ?_
  | refine wx_eqI ?_ | refine wx_neI ?_ | refine wx_eqB ?_ | refine wx_neB ?_ | refine wx_eqS ?_ | refine wx_neS ?_ | refine wx_lt ?_ | refine wx_le ?_ | refine wx_gt ?_ | refine wx_ge ?_
  | refine wd_var (by with_unfolding_all rfl) ?_ | refine wd_varO (by with_unfolding_all rfl) ?_ | refine wo_f (by with_unfolding_all rfl) ?_ | refine wo_o (by with_unfolding_all rfl) ?_ | refine wo_p (by with_unfolding_all rfl) ?_ | refine wl_s (by with_unfolding_all rfl) ?_
  | refine wy_eq (by with_unfolding_all rfl) ?_ | refine we_eq (by with_unfolding_all rfl) ?_ | refine ⟨_, rfl, ?_⟩ | refine Exists.intro _ (And.intro rfl ?_)
  | refine and_put (by with_unfolding_all rfl) ?_ | refine and_len (by first | (with_unfolding_all decide) | (simp; done) | (simp; omega)) ?_
  | refine wx_toT (by omega) ?_ | refine wx_fromT (by omega) ?_ | refine wx_toL (by omega) ?_ | refine wx_fromL (by omega) ?_
  | refine wx_mul (by omega) ?_ | refine wx_mod (by omega) ?_ | refine wx_div (by omega) (by first | assumption | decide) ?_ | refine wx_pow (by decide) ?_ | refine wx_addT (by simp; omega) ?_ | refine wx_addL (by simp; omega) ?_
  | refine wq_isiT (by with_unfolding_all rfl) ?_ | refine wq_isiF (by with_unfolding_all rfl) ?_ | refine wc_T (by with_unfolding_all rfl) ?_ | refine wc_F (by with_unfolding_all rfl) ?_ | refine wq_len (by with_unfolding_all rfl) ?_ | refine wq_ix (by with_unfolding_all rfl) ?_ | refine wq_ixs (by with_unfolding_all rfl) ?_ | refine wm_ow (by with_unfolding_all rfl) (by with_unfolding_all rfl) ?_ | refine rf_rm (by with_unfolding_all rfl) ?_ | refine wpl_var (by with_unfolding_all rfl) ?_ | refine wq_v (by with_unfolding_all rfl) ?_ | refine ws_retO (by with_unfolding_all rfl) ?_ | refine we_appO (by with_unfolding_all rfl) (by first | (simp; done) | (simp; omega)) ?_ | refine we_appW (by with_unfolding_all rfl) (by first | (simp; done) | (simp; omega)) ?_ | refine wq_add (by with_unfolding_all rfl) ?_ | refine wq_sub (by with_unfolding_all rfl) ?_ | refine wq_neg (by with_unfolding_all rfl) ?_ | refine wq_rev (by with_unfolding_all rfl) ?_ | refine wq_cut (by with_unfolding_all rfl) ?_ | refine wq_int (by with_unfolding_all rfl) ?_ | refine wq_lst (by with_unfolding_all rfl) ?_ | refine wq_tup (by with_unfolding_all rfl) ?_ | refine wq_max (by with_unfolding_all rfl) ?_ | refine wq_min (by with_unfolding_all rfl) ?_ | refine wq_all (by with_unfolding_all rfl) ?_))
theorem tk : g__law_take = gTake := rfl
theorem wb : g__law_web = gWeb := rfl
theorem fb_web {m : Int} : ∀ {ts : List Tie} {s : List (List Int)} {n : Nat}, (∀ t ∈ ts, 0 ≤ t.1 ∧ t.1 < t.2.1 ∧ t.2.1 < m ∧ 1 ≤ t.2.2.1 ∧ t.2.2.1 ≤ 99 ∧ 1 ≤ t.2.2.2 ∧ t.2.2.2 ≤ 99) → (s ++ ts.map fun t => [t.1, t.2.1]).Nodup → fb m (ts.map tieD) s n = none
  | [], _, _, _, _ => rfl
  | t :: ts, s, n, h, nd => by
    have ht := h t List.mem_cons_self
    have ok : okT m (tieD t) = some [t.1, t.2.1] := okT_yes (by simp [isIn]; omega) (by simp [isIn]; omega) (by omega) (by simp [isIn]; omega) (by simp [isIn]; omega)
    rw [List.map_cons] at nd ⊢
    unfold fb
    rw [ok]
    have ns : [t.1, t.2.1] ∉ s := fun z => (List.nodup_append.mp nd).2.2 _ z _ List.mem_cons_self rfl
    dsimp only
    rw [if_neg ns]
    exact fb_web (fun x hx => h x (List.mem_cons_of_mem _ hx)) (by simpa using nd)
theorem due_web {m : Int} {ts : List Tie} (W : Web m ts) : dueR (webD m ts) = none := by
  unfold webD dueR
  have := W.lo
  have := W.hi
  have := W.len
  dsimp only
  rw [if_pos (by simp; omega), fb_web W.ok]
  · rfl
  · have nd := W.nd
    rw [List.nil_append]
    have : (ts.map fun t => [t.1, t.2.1]) = (ts.map key).map fun k => [k.1, k.2] := by simp [List.map_map, Function.comp_def, key]
    rw [this]
    exact List.Pairwise.map _ (fun a b hab e => hab (by
      have h1 := congrArg (fun l : List Int => l[0]?) e
      have h2 := congrArg (fun l : List Int => l[1]?) e
      simp at h1 h2
      exact Prod.ext h1 h2)) nd
theorem nc_b {b : Bool} : Nc 0 61 (.bool b) := (nc_bool b).mono (by decide) (by decide)
theorem nc_n : Nc 0 61 .none := nc_none.mono (by decide) (by decide)
theorem nc_i {i : Int} (h : -1 ≤ i ∧ i ≤ 1000) : Nc 0 61 (.int i) := nc_int (by omega)
theorem tie_nc {m : Int} {ts : List Tie} (W : Web m ts) : ∀ x ∈ ts.map tieD, Nc 1 300 x := fun x hx => by
  obtain ⟨t, ht, rfl⟩ := List.mem_map.mp hx
  have := W.ok t ht
  have h8 := W.hi
  exact nc_tuple (L := 61) (all_cons (nc_i (by omega)) (all_cons (nc_i (by omega)) (all_cons (nc_i (by omega)) (all_cons (nc_i (by omega)) all_nil)))) (by simp)
theorem tie_pt (t : Tie) : Pt (tieD t) := ⟨rfl, fun xs e y hy => by
  cases e
  simp only [List.mem_cons, List.not_mem_nil, or_false] at hy
  rcases hy with rfl | rfl | rfl | rfl <;> rfl⟩
theorem web_th (m : Int) (ts : List Tie) : Th (webD m ts) := ⟨rfl, fun m' ts' e => by
  cases e
  exact ⟨rfl, rfl, fun xs e x hx => by
    cases e
    obtain ⟨t, _, rfl⟩ := List.mem_map.mp hx
    exact tie_pt t⟩⟩
theorem web_nc {m : Int} {ts : List Tie} (W : Web m ts) : Nc 3 20000 (webD m ts) := by
  have := W.lo
  have := W.hi
  have := W.len
  refine nc_tuple (k := 2) (L := 7000) (all_cons ((nc_i (by omega)).mono (by decide) (by decide)) (all_cons ?_ all_nil)) (by simp)
  exact nc_list (L := 300) (tie_nc W) (by simp; omega)
theorem look_web {m : Int} {ts : List Tie} (W : Web m ts) : Wfx (g_look_at_web [webD m ts]) fun r os => r = .inl .none ∧ os = [] := by
  refine wfx_use (e_look _ (web_th m ts)) ?_
  rintro _ _ ⟨rfl, rfl⟩
  rw [due_web W]
  exact ⟨rfl, rfl⟩
/-- a house, or refused -/
def houseR (m : Int) (d : D) : D ⊕ Ex := if isIn 0 m d = true then .inl .none else .inr ⟨"NoHouse", some ("house", d)⟩
theorem look_house (m : Int) (ts : List Tie) (d : D) (h : plainTy d = true) : Wfx (g_look_at_house [webD m ts, d]) fun r os => r = houseR m d ∧ os = [] := by
  unfold g_look_at_house d_look_at_house
  refine wfx_of rfl ?_
  unfold webD
  walk_at "go"
  refine (e_is_house m d h).use ?_
  walk_at "go"
  refine wc_s (fun q => ?_) (fun q => ?_)
  · walk_at "go"
    exact ⟨by simp at q; simp [houseR, q], rfl⟩
  · walk_at "go"
    exact ⟨by simp at q; simp [houseR, q], rfl⟩
/-- the roads and their prices -/
def prs (ts : List Tie) : List (List Int × D) := ts.flatMap fun t => [([t.1, t.2.1], .int t.2.2.1), ([t.2.1, t.1], .int t.2.2.2)]
def prk (ts : List Tie) : List (Int × Int) := ts.flatMap fun t => [(t.1, t.2.1), (t.2.1, t.1)]
theorem prs_keys (ts : List Tie) : (prs ts).map (·.1) = (prk ts).map fun p => [p.1, p.2] := by
  induction ts with
  | nil => rfl
  | cons t ts ih =>
    simp only [prs, prk, List.flatMap_cons, List.map_append] at ih ⊢
    rw [ih]; rfl
theorem prs_len (ts : List Tie) : (prs ts).length = 2 * ts.length := by
  induction ts with
  | nil => rfl
  | cons t ts ih =>
    simp only [prs, List.flatMap_cons, List.length_append, List.length_cons, List.length_nil] at ih ⊢
    omega
theorem prs_app (a b : List Tie) : prs (a ++ b) = prs a ++ prs b := List.flatMap_append
theorem prk_app (a b : List Tie) : prk (a ++ b) = prk a ++ prk b := List.flatMap_append
theorem prk_mem {ts : List Tie} {p : Int × Int} : p ∈ prk ts ↔ ∃ t ∈ ts, p = (t.1, t.2.1) ∨ p = (t.2.1, t.1) := by
  simp [prk, List.mem_flatMap]
theorem prk_nd {m : Int} {ts : List Tie} (h : ∀ t ∈ ts, t.1 < t.2.1) (nd : (ts.map key).Nodup) : (prk ts).Nodup := by
  induction ts with
  | nil => simp [prk]
  | cons t ts ih =>
    rw [List.map_cons, List.nodup_cons] at nd
    have e : prk (t :: ts) = (t.1, t.2.1) :: (t.2.1, t.1) :: prk ts := rfl
    have lt := h t List.mem_cons_self
    have h' := fun x hx => h x (List.mem_cons_of_mem _ hx)
    have no : ∀ x ∈ ts, ¬ (x.1 = t.1 ∧ x.2.1 = t.2.1) := fun x hx z => nd.1 (List.mem_map.mpr ⟨x, hx, by simp [key, z.1, z.2]⟩)
    rw [e, List.nodup_cons, List.nodup_cons]
    refine ⟨fun z => ?_, fun z => ?_, ih h' nd.2⟩
    · rcases List.mem_cons.mp z with z | z
      · have := congrArg Prod.fst z
        simp at this; omega
      · obtain ⟨x, hx, q⟩ := prk_mem.mp z
        have := h' x hx
        have := no x hx
        simp only [Prod.mk.injEq] at q
        omega
    · obtain ⟨x, hx, q⟩ := prk_mem.mp z
      have := h' x hx
      have := no x hx
      simp only [Prod.mk.injEq] at q
      omega
theorem prs_step {m : Int} {ts : List Tie} (W : Web m ts) {k : Nat} {t : Tie} (h : ts[k]? = some t) : prs (ts.take (k + 1)) = prs (ts.take k) ++ [([t.1, t.2.1], .int t.2.2.1)] ++ [([t.2.1, t.1], .int t.2.2.2)] ∧ (∀ q ∈ prs (ts.take k), q.1 ≠ [t.1, t.2.1]) ∧ ∀ q ∈ prs (ts.take k) ++ [([t.1, t.2.1], .int t.2.2.1)], q.1 ≠ [t.2.1, t.1] := by
  have hk := (List.getElem?_eq_some_iff.mp h).1
  have e1 : ts.take (k + 1) = ts.take k ++ [t] := by rw [List.take_add_one, h]; rfl
  have nd : (prk (ts.take (k + 1))).Nodup := by
    refine prk_nd (m := m) (fun x hx => ?_) ?_
    · have := W.ok x (List.mem_of_mem_take hx); omega
    · rw [List.map_take]
      exact W.nd.sublist (List.take_sublist _ _)
  have e2 : prk (ts.take (k + 1)) = prk (ts.take k) ++ [(t.1, t.2.1), (t.2.1, t.1)] := by rw [e1, prk_app]; rfl
  rw [e2, List.nodup_append] at nd
  obtain ⟨_, n2, n3⟩ := nd
  have new : ∀ q ∈ prs (ts.take k), ∀ a b : Int, (a, b) ∈ [(t.1, t.2.1), (t.2.1, t.1)] → q.1 ≠ [a, b] := fun q hq a b hab z => by
    have : q.1 ∈ (prs (ts.take k)).map (·.1) := List.mem_map.mpr ⟨q, hq, rfl⟩
    rw [prs_keys] at this
    obtain ⟨p, hp, e⟩ := List.mem_map.mp this
    rw [z] at e
    have e3 := congrArg (fun l : List Int => l[0]?) e
    have e4 := congrArg (fun l : List Int => l[1]?) e
    simp at e3 e4
    exact n3 p hp (a, b) hab (Prod.ext e3 e4)
  refine ⟨by rw [e1, prs_app, List.append_assoc]; rfl, fun q hq => new q hq _ _ (by simp), fun q hq => ?_⟩
  rcases List.mem_append.mp hq with hq | hq
  · exact new q hq _ _ (by simp)
  · rw [List.mem_singleton] at hq
    subst hq
    intro z
    have e3 := congrArg (fun l : List Int => l[0]?) z
    simp at e3
    have := W.ok t (List.mem_of_getElem? h)
    omega
abbrev prD (ts : List Tie) : D := .dict ((.bool true, .none) :: tupV (prs ts))
theorem prices_spec {m : Int} {ts : List Tie} (W : Web m ts) : Wf (g_prices_in [webD m ts]) fun d os => d = prD ts ∧ os = [] := by
  have hlen := W.len
  unfold g_prices_in d_prices_in
  refine wf_ofN rfl ?_
  unfold webD
  walk_at "go"
  refine ⟨_, _, rfl, ?_⟩
  walk_at "go"
  refine for_step (k := 0) (fun k e => ∃ s2 s3 s4 s5, MP s2 ∧ MP s3 ∧ MP s4 ∧ MP s5 ∧ e = [.fz (.tuple [.int m, .list (ts.map tieD)]), .ow (prD (ts.take k)), s2, s3, s4, s5]) ⟨.un, .un, .un, .un, rfl, rfl, rfl, rfl, rfl⟩ ?_ ?_
  · rintro i x _ hx ⟨s2, s3, s4, s5, m2, m3, m4, m5, rfl⟩
    simp only [Nat.zero_add]
    rw [List.getElem?_map, Option.map_eq_some_iff] at hx
    obtain ⟨t, ht, rfl⟩ := hx
    obtain ⟨st, n1, n2⟩ := prs_step W ht
    have hi := (List.getElem?_eq_some_iff.mp ht).1
    obtain ⟨a, b, p, q⟩ := t
    refine we_eq (ds := [.fz (.tuple [.int m, .list (ts.map tieD)]), .ow (prD (ts.take i)), .fz (.int a), .fz (.int b), .fz (.int p), .fz (.int q)]) ?_ ?_
    · simp [tieD, tgTup, tgsCons, tgsNil, tgName, put, m2, m3, m4, m5]
    walk_at "go"
    refine wx_eq rfl ?_
    walk_at "go"
    refine we_putO (by with_unfolding_all rfl) (put_tupV (b := [a, b]) (by rw [prs_len, List.length_take]; omega) n1) ?_
    walk_at "go"
    refine wx_eq rfl ?_
    walk_at "go"
    refine we_putO (by with_unfolding_all rfl) (put_tupV (b := [b, a]) (by rw [List.length_append, prs_len, List.length_take]; simp; omega) n2) ?_
    refine ⟨.fz (.int a), .fz (.int b), .fz (.int p), .fz (.int q), rfl, rfl, rfl, rfl, ?_⟩
    rw [show prD (ts.take (i + 1)) = .dict ((.bool true, .none) :: tupV (prs (ts.take (i + 1)))) from rfl, st]
    rfl
  · rintro _ ⟨s2, s3, s4, s5, m2, m3, m4, m5, rfl⟩
    walk_at "go"
    exact ⟨by rw [Nat.zero_add, List.length_map, List.take_length], rfl⟩
end K02

namespace K02
open PySem L2 DL TT
local macro_rules | `(tactic| walk_at "go") => `(tactic| repeat (with_reducible first
  | refine wo_ex ?_ | refine wl_f ?_ | refine wd_c ?_ | refine wd_op2 ?_ | refine wd_get1 ?_ | refine wd_dc ?_ | refine wi_k ?_ | refine wd_get2 ?_ | refine wd_fz ?_ | refine wd_methR ?_ | refine wm_f ?_ | refine wm_n ?_ | refine wm_tup ?_ | refine wm_call ?_ | refine wms_nil ?_ | refine wms_cons ?_ | refine ws_setT ?_ | refine ws_retT ?_ | refine ws_putD ?_ | refine rg_rm ?_ | refine rw_rt ?_ | refine rw_rn ?_ | refine rw_rm ?_ | refine and_lenM (by simp) (by simp) ?_ | refine wx_isN ?_ | refine wd_disp (by decide) ?_ | refine evp_nil ?_ | refine evp_cons ?_ | refine wd_appP ?_ | refine wpl_sub ?_ | refine wq_c ?_ | refine wd_op1 ?_ | refine wd_opA ?_ | refine wv_nil ?_ | refine wv_cons ?_ | refine wk_nil ?_ | refine wk_cons ?_
  | refine wc_t ?_ | refine wc_f ?_ | refine wb_d ?_ | refine wb_and ?_ | refine wb_or ?_ | refine wb_not ?_ | refine wb_tt ?_ | refine wd_and ?_ | refine wd_or ?_ | refine wd_not ?_ | refine wd_if ?_ | refine wd_chain ?_
  | refine wd_tup ?_ | refine wd_lst ?_ | refine wd_call ?_ | refine wd_meth ?_ | refine wd_slice ?_ | refine wp_no ?_ | refine wp_at ?_ | refine wd_dict0 ?_ | refine wd_lc ?_ | refine wi_l ?_ | refine wi_t ?_ | refine wi_enT ?_ | refine wi_enL ?_ | refine wi_zipT ?_ | refine wi_r1 ?_
  | refine ws_seq ?_ | refine ws_nx ?_ | refine ws_if ?_ | refine ws_set ?_ | refine ws_setN ?_ | refine ws_drop ?_ | refine ws_ret ?_ | refine ws_retN ?_ | refine ws_unp ?_ | refine ws_setIx ?_ | refine ws_for ?_
  | refine rg_nx ?_ | refine rg_rt ?_ | refine rg_rn ?_ | refine rf_nx ?_ | refine rf_rt ?_ | refine rf_rn ?_
  | refine wd_lam ?_ | refine wi_kT ?_ | refine wf_told ?_ | refine rn_rn (by with_unfolding_all rfl) ?_ | refine rn_xx (by with_unfolding_all rfl) ?_ | refine ws_try ?_ | refine tr_nx ?_ | refine tr_rt ?_ | refine tr_xx ?_ | refine rg_xx ?_ | refine ws_raise ?_ | refine ws_raise0 ?_ | refine ws_dropX ?_ | refine ws_retX ?_ | refine wz_call ?_ | refine pk_yes (by with_unfolding_all rfl) (by with_unfolding_all rfl) ?_ | refine pk_no (by with_unfolding_all rfl) ?_ | refine co_nx (by with_unfolding_all rfl) ?_ | refine co_rt ?_ | refine co_rn ?_ | refine rx_nx (by with_unfolding_all rfl) ?_ | refine rx_rt (by with_unfolding_all rfl) ?_ | refine rx_xx (by with_unfolding_all rfl) ?_ | refine wq_isX (by with_unfolding_all rfl) ?_ | refine wq_xf (by with_unfolding_all rfl) ?_ | refine ox_rt ?_ | refine ox_rn ?_ | refine ox_xx ?_
  | refine wx_eqI ?_ | refine wx_neI ?_ | refine wx_eqB ?_ | refine wx_neB ?_ | refine wx_eqS ?_ | refine wx_neS ?_ | refine wx_lt ?_ | refine wx_le ?_ | refine wx_gt ?_ | refine wx_ge ?_
  | refine wd_var (by with_unfolding_all rfl) ?_ | refine wd_varO (by with_unfolding_all rfl) ?_ | refine wo_f (by with_unfolding_all rfl) ?_ | refine wo_o (by with_unfolding_all rfl) ?_ | refine wo_p (by with_unfolding_all rfl) ?_ | refine wl_s (by with_unfolding_all rfl) ?_
  | refine wy_eq (by with_unfolding_all rfl) ?_ | refine we_eq (by with_unfolding_all rfl) ?_ | refine ⟨_, rfl, ?_⟩ | refine Exists.intro _ (And.intro rfl ?_)
  | refine and_put (by with_unfolding_all rfl) ?_ | refine and_len (by first | (with_unfolding_all decide) | (simp; done) | (simp; omega)) ?_
  | refine wx_toT (by omega) ?_ | refine wx_fromT (by omega) ?_ | refine wx_toL (by omega) ?_ | refine wx_fromL (by omega) ?_
  | refine wx_mul (by omega) ?_ | refine wx_mod (by omega) ?_ | refine wx_div (by omega) (by first | assumption | decide) ?_ | refine wx_pow (by decide) ?_ | refine wx_addT (by simp; omega) ?_ | refine wx_addL (by simp; omega) ?_
  | refine wq_isiT (by with_unfolding_all rfl) ?_ | refine wq_isiF (by with_unfolding_all rfl) ?_ | refine wc_T (by with_unfolding_all rfl) ?_ | refine wc_F (by with_unfolding_all rfl) ?_ | refine wq_len (by with_unfolding_all rfl) ?_ | refine wq_ix (by with_unfolding_all rfl) ?_ | refine wq_ixs (by with_unfolding_all rfl) ?_ | refine wm_ow (by with_unfolding_all rfl) (by with_unfolding_all rfl) ?_ | refine rf_rm (by with_unfolding_all rfl) ?_ | refine wpl_var (by with_unfolding_all rfl) ?_ | refine wq_v (by with_unfolding_all rfl) ?_ | refine ws_retO (by with_unfolding_all rfl) ?_ | refine we_appO (by with_unfolding_all rfl) (by first | (simp; done) | (simp; omega)) ?_ | refine we_appW (by with_unfolding_all rfl) (by first | (simp; done) | (simp; omega)) ?_ | refine wq_add (by with_unfolding_all rfl) ?_ | refine wq_sub (by with_unfolding_all rfl) ?_ | refine wq_neg (by with_unfolding_all rfl) ?_ | refine wq_rev (by with_unfolding_all rfl) ?_ | refine wq_cut (by with_unfolding_all rfl) ?_ | refine wq_int (by with_unfolding_all rfl) ?_ | refine wq_lst (by with_unfolding_all rfl) ?_ | refine wq_tup (by with_unfolding_all rfl) ?_ | refine wq_max (by with_unfolding_all rfl) ?_ | refine wq_min (by with_unfolding_all rfl) ?_ | refine wq_all (by with_unfolding_all rfl) ?_))
theorem refused_house (d : D) : h__law_refused (.inr ⟨"NoHouse", some ("house", d)⟩) = some (.list [.str "house", d]) := rfl
theorem refused_web (d : D) : h__law_refused (.inr ⟨"NoWeb", some ("number", d)⟩) = some (.list [.str "web", d]) := rfl
def nbs (ts : List Tie) (i : Int) : List Int := ((prk ts).filter fun p => decide (p.1 = i)).map (·.2)
def isF (i : Int) : D → Bool
  | .tuple [.int a, _] => decide (a = i)
  | _ => false
def snd : D → D
  | .tuple [_, b] => b
  | d => d
theorem keys_eq (ts : List Tie) : (tupV (prs ts)).map (·.1) = (prk ts).map fun p => tupD [p.1, p.2] := by
  have := congrArg (List.map tupD) (prs_keys ts)
  simpa [tupV, List.map_map, Function.comp_def] using this
theorem nbs_eq (ts : List Tie) (i : Int) : ((((prk ts).map fun p => tupD [p.1, p.2]).filter (isF i)).map snd) = (nbs ts i).map .int := by
  rw [List.filter_map, List.map_map, nbs, List.map_map]
  rfl
theorem nb_house {m : Int} {ts : List Tie} (W : Web m ts) {i : Int} (h0 : 0 ≤ i) (h1 : i < m) : Wfx (g_neighbours [webD m ts, .int i]) fun r os => r = .inl (.list ((sortI (nbs ts i)).map .int)) ∧ os = [] := by
  unfold g_neighbours d_neighbours
  refine wfx_ofN rfl ?_
  have hn : isIn 0 m (.int i) = true := by simp [isIn, h0, h1]
  walk_at "go"
  refine wfx_use (look_web W) ?_
  rintro _ _ ⟨rfl, rfl⟩
  walk_at "go"
  refine wfx_use (look_house m ts (.int i) rfl) ?_
  rintro _ _ ⟨rfl, rfl⟩
  simp only [houseR, hn, if_true]
  walk_at "go"
  refine wf_use (prices_spec W) ?_
  rintro _ _ ⟨rfl, rfl⟩
  walk_at "go"
  rw [keys_eq]
  have lc := lc_filter (vs := [2, 3]) (t := tgTup (tgsCons (tgName 2) (tgsCons (tgName 3) tgsNil))) (p := bD (op2 gEq (.vr 2) (.vr 1))) (f := eVar 3) (e0 := [.fz (webD m ts), .fz (.int i), .un, .un]) (isF i) snd (ds := (prk ts).map fun p => tupD [p.1, p.2]) (fun x hx => by
    obtain ⟨⟨a, b⟩, _, rfl⟩ := List.mem_map.mp hx
    refine we_eq (ds := [.fz (webD m ts), .fz (.int i), .fz (.int a), .fz (.int b)]) (by with_unfolding_all rfl) ?_
    walk_at "go"
    refine ⟨by rw [Bool.eq_iff_iff]; simp [isF, tupD], ?_⟩
    refine wc_s (fun q => ?_) (fun q => ?_)
    · walk_at "go"
      exact ⟨rfl, we_eq (by with_unfolding_all rfl) rfl⟩
    · exact we_eq (by with_unfolding_all rfl) rfl)
  refine ⟨by
    have e := congrArg List.length (prs_keys ts)
    rw [List.length_map, List.length_map, prs_len] at e
    have := W.len
    rw [List.length_map]; omega, ?_⟩
  walk_at "go"
  refine ⟨_, _, lc, ?_⟩
  rw [nbs_eq]
  walk_at "go"
  refine wx_eq (srt_ints _) ?_
  walk_at "go"
  exact ⟨rfl, rfl⟩
theorem nb_bad {m : Int} {ts : List Tie} (W : Web m ts) {d : D} (h : plainTy d = true) (hn : isIn 0 m d = false) : Wfx (g_neighbours [webD m ts, d]) fun r os => r = .inr ⟨"NoHouse", some ("house", d)⟩ ∧ os = [] := by
  unfold g_neighbours d_neighbours
  refine wfx_ofN rfl ?_
  walk_at "go"
  refine wfx_use (look_web W) ?_
  rintro _ _ ⟨rfl, rfl⟩
  walk_at "go"
  refine wfx_use (look_house m ts d h) ?_
  rintro _ _ ⟨rfl, rfl⟩
  simp only [houseR, hn, Bool.false_eq_true, if_false]
  walk_at "go"
  exact ⟨rfl, rfl⟩
theorem nb_noweb {w d n : D} (hw : Th w) (hn : dueR w = some n) : Wfx (g_neighbours [w, d]) fun r os => r = .inr ⟨"NoWeb", some ("number", n)⟩ ∧ os = [] := by
  unfold g_neighbours d_neighbours
  refine wfx_ofN rfl ?_
  walk_at "go"
  refine wfx_use (e_look w hw) ?_
  rintro _ _ ⟨rfl, rfl⟩
  rw [hn]
  simp only [lookR]
  walk_at "go"
  exact ⟨rfl, rfl⟩
def priceR (ts : List Tie) (i j : Int) : D := (((prs ts).find? fun k => decide (k.1 = [i, j])).map (·.2)).getD .none
theorem po_house {m : Int} {ts : List Tie} (W : Web m ts) {i j : Int} (h0 : 0 ≤ i) (h1 : i < m) (h2 : 0 ≤ j) (h3 : j < m) : Wfx (g_price_of [webD m ts, .int i, .int j]) fun r os => r = .inl (priceR ts i j) ∧ os = [] := by
  unfold g_price_of d_price_of
  refine wfx_of rfl ?_
  have hi : isIn 0 m (.int i) = true := by simp [isIn, h0, h1]
  have hj : isIn 0 m (.int j) = true := by simp [isIn, h2, h3]
  walk_at "go"
  refine wfx_use (look_web W) ?_
  rintro _ _ ⟨rfl, rfl⟩
  walk_at "go"
  refine wfx_use (look_house m ts (.int i) rfl) ?_
  rintro _ _ ⟨rfl, rfl⟩
  simp only [houseR, hi, if_true]
  walk_at "go"
  refine wfx_use (look_house m ts (.int j) rfl) ?_
  rintro _ _ ⟨rfl, rfl⟩
  simp only [houseR, hj, if_true]
  walk_at "go"
  refine wf_use (prices_spec W) ?_
  rintro _ _ ⟨rfl, rfl⟩
  walk_at "go"
  refine ⟨rfl, ?_⟩
  walk_at "go"
  refine ⟨_, get_tupV (b := [i, j]), ?_⟩
  walk_at "go"
  exact ⟨rfl, rfl⟩
theorem po_bad1 {m : Int} {ts : List Tie} (W : Web m ts) {d d2 : D} (h : plainTy d = true) (hn : isIn 0 m d = false) : Wfx (g_price_of [webD m ts, d, d2]) fun r os => r = .inr ⟨"NoHouse", some ("house", d)⟩ ∧ os = [] := by
  unfold g_price_of d_price_of
  refine wfx_of rfl ?_
  walk_at "go"
  refine wfx_use (look_web W) ?_
  rintro _ _ ⟨rfl, rfl⟩
  walk_at "go"
  refine wfx_use (look_house m ts d h) ?_
  rintro _ _ ⟨rfl, rfl⟩
  simp only [houseR, hn, Bool.false_eq_true, if_false]
  walk_at "go"
  exact ⟨rfl, rfl⟩
theorem po_bad2 {m : Int} {ts : List Tie} (W : Web m ts) {d : D} (h : plainTy d = true) (hn : isIn 0 m d = false) : Wfx (g_price_of [webD m ts, .int 0, d]) fun r os => r = .inr ⟨"NoHouse", some ("house", d)⟩ ∧ os = [] := by
  unfold g_price_of d_price_of
  refine wfx_of rfl ?_
  have hi : isIn 0 m (.int 0) = true := by have := W.lo; simp [isIn]; omega
  walk_at "go"
  refine wfx_use (look_web W) ?_
  rintro _ _ ⟨rfl, rfl⟩
  walk_at "go"
  refine wfx_use (look_house m ts (.int 0) rfl) ?_
  rintro _ _ ⟨rfl, rfl⟩
  simp only [houseR, hi, if_true]
  walk_at "go"
  refine wfx_use (look_house m ts d h) ?_
  rintro _ _ ⟨rfl, rfl⟩
  simp only [houseR, hn, Bool.false_eq_true, if_false]
  walk_at "go"
  exact ⟨rfl, rfl⟩
theorem po_noweb {w d d2 n : D} (hw : Th w) (hn : dueR w = some n) : Wfx (g_price_of [w, d, d2]) fun r os => r = .inr ⟨"NoWeb", some ("number", n)⟩ ∧ os = [] := by
  unfold g_price_of d_price_of
  refine wfx_of rfl ?_
  walk_at "go"
  refine wfx_use (e_look w hw) ?_
  rintro _ _ ⟨rfl, rfl⟩
  rw [hn]
  simp only [lookR]
  walk_at "go"
  exact ⟨rfl, rfl⟩
/-- the law's own neighbours are those -/
theorem due_nbs {m : Int} {ts : List Tie} (W : Web m ts) (i : Int) : sortI (nbs ts i) = ((List.range m.toNat).filter fun (j : Nat) => decide ((i, (j : Int)) ∈ prk ts)).map fun (j : Nat) => (j : Int) := by
  have lt : ∀ t ∈ ts, t.1 < t.2.1 := fun t ht => (W.ok t ht).2.1
  have nd := prk_nd (m := m) lt W.nd
  refine eq_rising (sort_rising ?_) ?_ fun x => ?_
  · have n2 := nd.sublist (List.filter_sublist (p := fun p => decide (p.1 = i)))
    refine List.pairwise_map.mpr (List.Pairwise.imp_of_mem ?_ n2)
    intro a b ha hb hab z
    have h1 := (List.mem_filter.mp ha).2
    have h2 := (List.mem_filter.mp hb).2
    simp only [decide_eq_true_eq] at h1 h2
    exact hab (Prod.ext (h1.trans h2.symm) z)
  · refine List.pairwise_map.mpr ((List.pairwise_lt_range.sublist List.filter_sublist).imp fun h => ?_)
    omega
  · rw [(sortI_perm _).mem_iff]
    simp only [nbs, List.mem_map, List.mem_filter, decide_eq_true_eq, List.mem_range]
    constructor
    · rintro ⟨⟨a, b⟩, ⟨h1, h2⟩, h3⟩
      simp only at h2 h3
      subst h2 h3
      obtain ⟨t, ht, q⟩ := prk_mem.mp h1
      have := W.ok t ht
      simp only [Prod.mk.injEq] at q
      have hb : ((b.toNat : Nat) : Int) = b := by omega
      exact ⟨b.toNat, ⟨by omega, by rw [hb]; exact h1⟩, hb⟩
    · rintro ⟨j, ⟨_, h2⟩, rfl⟩
      exact ⟨(i, (j : Int)), ⟨h2, rfl⟩, rfl⟩
end K02

namespace K02
open PySem L2 DL TT
local macro_rules | `(tactic| walk_at "go") => `(tactic| repeat (with_reducible first
  | refine wo_ex ?_ | refine wl_f ?_ | refine wd_c ?_ | refine wd_op2 ?_ | refine wd_get1 ?_ | refine wd_dc ?_ | refine wi_k ?_ | refine wd_get2 ?_ | refine wd_fz ?_ | refine wd_methR ?_ | refine wm_f ?_ | refine wm_n ?_ | refine wm_tup ?_ | refine wm_call ?_ | refine wms_nil ?_ | refine wms_cons ?_ | refine ws_setT ?_ | refine ws_retT ?_ | refine ws_putD ?_ | refine rg_rm ?_ | refine rw_rt ?_ | refine rw_rn ?_ | refine rw_rm ?_ | refine and_lenM (by simp) (by simp) ?_ | refine wx_isN ?_ | refine wd_disp (by decide) ?_ | refine evp_nil ?_ | refine evp_cons ?_ | refine wd_appP ?_ | refine wpl_sub ?_ | refine wq_c ?_ | refine wd_op1 ?_ | refine wd_opA ?_ | refine wv_nil ?_ | refine wv_cons ?_ | refine wk_nil ?_ | refine wk_cons ?_
  | refine wc_t ?_ | refine wc_f ?_ | refine wb_d ?_ | refine wb_and ?_ | refine wb_or ?_ | refine wb_not ?_ | refine wb_tt ?_ | refine wd_and ?_ | refine wd_or ?_ | refine wd_not ?_ | refine wd_if ?_ | refine wd_chain ?_
  | refine wd_tup ?_ | refine wd_lst ?_ | refine wd_call ?_ | refine wd_meth ?_ | refine wd_slice ?_ | refine wp_no ?_ | refine wp_at ?_ | refine wd_dict0 ?_ | refine wd_lc ?_ | refine wi_l ?_ | refine wi_t ?_ | refine wi_enT ?_ | refine wi_enL ?_ | refine wi_zipT ?_ | refine wi_r1 ?_
  | refine ws_seq ?_ | refine ws_nx ?_ | refine ws_if ?_ | refine ws_set ?_ | refine ws_setN ?_ | refine ws_drop ?_ | refine ws_ret ?_ | refine ws_retN ?_ | refine ws_unp ?_ | refine ws_setIx ?_ | refine ws_for ?_
  | refine rg_nx ?_ | refine rg_rt ?_ | refine rg_rn ?_ | refine rf_nx ?_ | refine rf_rt ?_ | refine rf_rn ?_
  | refine wd_lam ?_ | refine wi_kT ?_ | refine wf_told ?_ | refine rn_rn (by with_unfolding_all rfl) ?_ | refine rn_xx (by with_unfolding_all rfl) ?_ | refine ws_try ?_ | refine tr_nx ?_ | refine tr_rt ?_ | refine tr_xx ?_ | refine rg_xx ?_ | refine ws_raise ?_ | refine ws_raise0 ?_ | refine ws_dropX ?_ | refine ws_retX ?_ | refine wz_call ?_ | refine pk_yes (by with_unfolding_all rfl) (by with_unfolding_all rfl) ?_ | refine pk_no (by with_unfolding_all rfl) ?_ | refine co_nx (by with_unfolding_all rfl) ?_ | refine co_rt ?_ | refine co_rn ?_ | refine rx_nx (by with_unfolding_all rfl) ?_ | refine rx_rt (by with_unfolding_all rfl) ?_ | refine rx_xx (by with_unfolding_all rfl) ?_ | refine wq_isX (by with_unfolding_all rfl) ?_ | refine wq_xf (by with_unfolding_all rfl) ?_ | refine ox_rt ?_ | refine ox_rn ?_ | refine ox_xx ?_
  | refine wx_eqI ?_ | refine wx_neI ?_ | refine wx_eqB ?_ | refine wx_neB ?_ | refine wx_eqS ?_ | refine wx_neS ?_ | refine wx_lt ?_ | refine wx_le ?_ | refine wx_gt ?_ | refine wx_ge ?_
  | refine wd_var (by with_unfolding_all rfl) ?_ | refine wd_varO (by with_unfolding_all rfl) ?_ | refine wo_f (by with_unfolding_all rfl) ?_ | refine wo_o (by with_unfolding_all rfl) ?_ | refine wo_p (by with_unfolding_all rfl) ?_ | refine wl_s (by with_unfolding_all rfl) ?_
  | refine wy_eq (by with_unfolding_all rfl) ?_ | refine we_eq (by with_unfolding_all rfl) ?_ | refine ⟨_, rfl, ?_⟩ | refine Exists.intro _ (And.intro rfl ?_)
  | refine and_put (by with_unfolding_all rfl) ?_ | refine and_len (by first | (with_unfolding_all decide) | (simp; done) | (simp; omega)) ?_
  | refine wx_toT (by omega) ?_ | refine wx_fromT (by omega) ?_ | refine wx_toL (by omega) ?_ | refine wx_fromL (by omega) ?_
  | refine wx_mul (by omega) ?_ | refine wx_mod (by omega) ?_ | refine wx_div (by omega) (by first | assumption | decide) ?_ | refine wx_pow (by decide) ?_ | refine wx_addT (by simp; omega) ?_ | refine wx_addL (by simp; omega) ?_
  | refine wq_isiT (by with_unfolding_all rfl) ?_ | refine wq_isiF (by with_unfolding_all rfl) ?_ | refine wc_T (by with_unfolding_all rfl) ?_ | refine wc_F (by with_unfolding_all rfl) ?_ | refine wq_len (by with_unfolding_all rfl) ?_ | refine wq_ix (by with_unfolding_all rfl) ?_ | refine wq_ixs (by with_unfolding_all rfl) ?_ | refine wm_ow (by with_unfolding_all rfl) (by with_unfolding_all rfl) ?_ | refine rf_rm (by with_unfolding_all rfl) ?_ | refine wpl_var (by with_unfolding_all rfl) ?_ | refine wq_v (by with_unfolding_all rfl) ?_ | refine ws_retO (by with_unfolding_all rfl) ?_ | refine we_appO (by with_unfolding_all rfl) (by first | (simp; done) | (simp; omega)) ?_ | refine we_appW (by with_unfolding_all rfl) (by first | (simp; done) | (simp; omega)) ?_ | refine wq_add (by with_unfolding_all rfl) ?_ | refine wq_sub (by with_unfolding_all rfl) ?_ | refine wq_neg (by with_unfolding_all rfl) ?_ | refine wq_rev (by with_unfolding_all rfl) ?_ | refine wq_cut (by with_unfolding_all rfl) ?_ | refine wq_int (by with_unfolding_all rfl) ?_ | refine wq_lst (by with_unfolding_all rfl) ?_ | refine wq_tup (by with_unfolding_all rfl) ?_ | refine wq_max (by with_unfolding_all rfl) ?_ | refine wq_min (by with_unfolding_all rfl) ?_ | refine wq_all (by with_unfolding_all rfl) ?_))
theorem wx_picks {P : D → Prop} {L : List D} {i : Int} {Q : D → Prop} (h : ∀ d ∈ L, P d) (h0 : 0 ≤ i) (hl : i < L.length) (k : ∀ d, P d → Q d) : Wx (gIxs (.list L) (.int i)) Q := by
  have hi : i.toNat < L.length := by omega
  exact wx_ixsL h0 (List.getElem?_eq_getElem hi) (k _ (h _ (List.getElem_mem hi)))
theorem nc_w : Nc 0 70 (.str "web") := nc_str (by decide +kernel) (by decide +kernel)
theorem nc_h : Nc 0 70 (.str "house") := nc_str (by decide +kernel) (by decide +kernel)
theorem price_nc {m : Int} {ts : List Tie} (W : Web m ts) (i j : Int) : Nc 0 61 (priceR ts i j) := by
  unfold priceR
  cases h : (prs ts).find? fun k => decide (k.1 = [i, j]) with
  | none => exact nc_n
  | some q =>
    have hq := List.mem_of_find?_eq_some h
    obtain ⟨t, ht, e⟩ := List.mem_flatMap.mp hq
    have := W.ok t ht
    simp only [List.mem_cons, List.not_mem_nil, or_false] at e
    rcases e with rfl | rfl <;> exact nc_i (by omega)
/-- what is no house -/
def Odd (m : Int) (d : D) : Prop := plainTy d = true ∧ isIn 0 m d = false ∧ Nc 1 100 d
theorem odd_nc {m : Int} {d : D} (h : Odd m d) : Nc 2 300 (.list [.str "house", d]) := nc_list (L := 100) (all_cons (nc_h.mono (by decide) (by decide)) (all_cons h.2.2 all_nil)) (by simp)
theorem web_nc2 {n : D} (h : Nc 0 61 n) : Nc 1 200 (.list [.str "web", n]) := nc_list (L := 70) (all_cons nc_w (all_cons (h.mono (by decide) (by decide)) all_nil)) (by simp)
theorem fb_none {m : Int} : ∀ {ts : List Tie} {s : List (List Int)} {n : Nat}, (∀ t ∈ ts, 0 ≤ t.1 ∧ t.1 < t.2.1 ∧ t.2.1 < m ∧ 1 ≤ t.2.2.1 ∧ t.2.2.1 ≤ 99 ∧ 1 ≤ t.2.2.2 ∧ t.2.2.2 ≤ 99) → (s ++ ts.map fun t => [t.1, t.2.1]).Nodup → fb m (ts.map tieD ++ [.none]) s n = some (n + ts.length)
  | [], _, _, _, _ => rfl
  | t :: ts, s, n, h, nd => by
    have ht := h t List.mem_cons_self
    have ok : okT m (tieD t) = some [t.1, t.2.1] := okT_yes (by simp [isIn]; omega) (by simp [isIn]; omega) (by omega) (by simp [isIn]; omega) (by simp [isIn]; omega)
    rw [List.map_cons] at nd ⊢
    rw [List.cons_append]
    unfold fb
    rw [ok]
    have ns : [t.1, t.2.1] ∉ s := fun z => (List.nodup_append.mp nd).2.2 _ z _ List.mem_cons_self rfl
    dsimp only
    rw [if_neg ns, fb_none (fun x hx => h x (List.mem_cons_of_mem _ hx)) (by simpa using nd)]
    simp; omega
theorem due_more {m : Int} {ts : List Tie} (W : Web m ts) : dueR (.tuple [.int m, .list (ts.map tieD ++ [.none])]) = some (if ts.length < 20 then .int (ts.length : Nat) else .none) := by
  have := W.lo
  have := W.hi
  have := W.len
  unfold dueR
  dsimp only
  by_cases h : ts.length < 20
  · rw [if_pos (by simp; omega), fb_none W.ok, if_pos h]
    · simp
    · have nd := W.nd
      rw [List.nil_append]
      have : (ts.map fun t => [t.1, t.2.1]) = (ts.map key).map fun k => [k.1, k.2] := by simp [List.map_map, Function.comp_def, key]
      rw [this]
      exact List.Pairwise.map _ (fun a b hab e => hab (by
        have h1 := congrArg (fun l : List Int => l[0]?) e
        have h2 := congrArg (fun l : List Int => l[1]?) e
        simp at h1 h2
        exact Prod.ext h1 h2)) nd
  · rw [if_neg (by simp; omega), if_neg h]
theorem more_th (m : Int) (ts : List Tie) : Th (.tuple [.int m, .list (ts.map tieD ++ [.none])]) := ⟨rfl, fun m' ts' e => by
  cases e
  exact ⟨rfl, rfl, fun xs e x hx => by
    cases e
    rcases List.mem_append.mp hx with hx | hx
    · obtain ⟨t, _, rfl⟩ := List.mem_map.mp hx
      exact tie_pt t
    · rw [List.mem_singleton] at hx; subst hx
      exact ⟨rfl, fun _ e => by cases e⟩⟩⟩
theorem odds {m : Int} (h1 : 1 ≤ m) (h8 : m ≤ 8) : ∀ d ∈ [PyData.none, .int (-1), .int m, .bool true, .str "0", .tuple [.int 0], .list [.int 0], .int (10 ^ 30)], Odd m d := by
  refine all_cons ⟨rfl, rfl, nc_n.mono (by decide) (by decide)⟩ (all_cons ⟨rfl, by simp [isIn], (nc_i (by decide)).mono (by decide) (by decide)⟩ (all_cons ⟨rfl, by simp [isIn], (nc_i (by omega)).mono (by decide) (by decide)⟩ (all_cons ⟨rfl, rfl, nc_b.mono (by decide) (by decide)⟩
    (all_cons ⟨rfl, rfl, (nc_str (L := 61) (by decide +kernel) (by decide +kernel)).mono (by decide) (by decide)⟩ (all_cons ⟨rfl, rfl, nc_tuple (L := 61) (all_cons (nc_i (by decide)) all_nil) (by simp)⟩ (all_cons ⟨rfl, rfl, nc_list (L := 61) (all_cons (nc_i (by decide)) all_nil) (by simp)⟩ (all_cons ⟨rfl, by simp [isIn]; omega, (nc_int (by decide)).mono (by decide) (by decide)⟩ all_nil)))))))
def dueL (m : Int) (ts : List Tie) (i : Int) : List Int := ((List.range m.toNat).filter fun (j : Nat) => decide ((i, (j : Int)) ∈ prk ts)).map fun (j : Nat) => (j : Int)
def isN (ts : List Tie) (i : Int) : D → Bool
  | .int j => decide ((i, j) ∈ prk ts)
  | _ => false
theorem rng_due (m : Int) (ts : List Tie) (i : Int) : ((rng 0 m.toNat).filter (isN ts i)).map id = (dueL m ts i).map .int := by
  unfold rng dueL
  rw [List.map_id, List.filter_map, List.map_map]
  have e : (isN ts i ∘ fun (j : Nat) => PyData.int (0 + (j : Int))) = fun (j : Nat) => decide ((i, (j : Int)) ∈ prk ts) := by
    funext j
    simp [isN]
  rw [e]
  refine List.map_congr_left fun j _ => ?_
  simp
theorem due_nc {m : Int} {ts : List Tie} (W : Web m ts) (i : Int) : Nc 1 1000 (.list ((dueL m ts i).map .int)) := by
  have h8 := W.hi
  refine nc_list (L := 61) (fun x hx => ?_) ?_
  · obtain ⟨j, hj, rfl⟩ := List.mem_map.mp hx
    obtain ⟨n, hn, rfl⟩ := List.mem_map.mp hj
    have := List.mem_range.mp (List.mem_filter.mp hn).1
    exact nc_i (by omega)
  · have := List.length_filter_le (fun (j : Nat) => decide ((i, (j : Int)) ∈ prk ts)) (List.range m.toNat)
    simp only [dueL, List.length_map, List.length_range] at this ⊢
    omega
theorem mem_keys {ts : List Tie} {a b : Int} : [a, b] ∈ (prs ts).map (·.1) ↔ (a, b) ∈ prk ts := by
  rw [prs_keys, List.mem_map]
  constructor
  · rintro ⟨p, hp, e⟩
    have h1 := congrArg (fun l : List Int => l[0]?) e
    have h2 := congrArg (fun l : List Int => l[1]?) e
    simp at h1 h2
    rw [← h1, ← h2]; exact hp
  · exact fun h => ⟨(a, b), h, rfl⟩
def MC (s : Sv) : Prop := MP s ∧ canWipe (some s) = true
theorem law_tells (ns : List Int) (hl : ns.length ≤ 63) : Tells (g_law [scrD ns]) true := by
  unfold g_law d_law
  refine wf_of rfl ?_
  generalize hS : scrD ns = S
  have hlen : gLen [S] = some (.int ns.length) := by rw [← hS, len_scr, List.length_map]
  walk_at "go"
  refine wq_len hlen ?_
  walk_at "go"
  refine ⟨by split <;> split <;> omega, ?_⟩
  have hr : ∀ m : Int, m = (if (if (20 : Int) < ns.length then (20 : Int) else ns.length) > 1 then (if (20 : Int) < ns.length then (20 : Int) else ns.length) else 1) → m.toNat ≤ 20 := fun m h => by
    split at h <;> split at h <;> omega
  generalize (if (if (20 : Int) < ns.length then (20 : Int) else ns.length) > 1 then (if (20 : Int) < ns.length then (20 : Int) else ns.length) else 1) = mm at hr ⊢
  have hr := hr mm rfl
  refine for_use (fun e => ∃ s1 s2 s3 s4 s5 s6 s7 s8 s9 s10 s11 s12 s13 s14, MP s1 ∧ MP s2 ∧ MP s3 ∧ MP s4 ∧ MP s5 ∧ MP s6 ∧ MP s7 ∧ MP s8 ∧ MC s9 ∧ MP s10 ∧ MP s11 ∧ MP s12 ∧ MP s13 ∧ MP s14 ∧ e = [.fz S, s1, s2, s3, s4, s5, s6, s7, s8, s9, s10, s11, s12, s13, s14]) ⟨_, _, _, _, _, _, _, _, .un, _, _, _, _, _, rfl, rfl, rfl, rfl, rfl, rfl, rfl, rfl, ⟨rfl, rfl⟩, rfl, rfl, rfl, rfl, rfl, rfl⟩ ?_ ?_
  · rintro x hx _ ⟨s1, s2, s3, s4, s5, s6, s7, s8, s9, s10, s11, s12, s13, s14, m1, m2, m3, m4, m5, m6, m7, m8, m9, m10, m11, m12, m13, m14, rfl⟩
    obtain ⟨k, rfl, hk⟩ := rng_mem hx
    refine put_one (s := s1) m1 ?_
    walk_at "go"
    rw [← hS]
    refine wf_use (pool_spec ns k (by omega)) ?_
    rintro P _ ⟨rfl, hP⟩
    rw [hS]
    walk_at "go"
    refine ⟨m2, ?_⟩
    walk_at "go"
    rw [wb]
    refine wf_use (web_spec hP (by decide) (by decide)) ?_
    rintro _ _ ⟨m, ts, P1, rfl, rfl, W, _, hP1⟩
    walk_at "go"
    refine ⟨m3, ?_⟩
    walk_at "go"
    have hlen := W.len
    have hlo := W.lo
    have hhi := W.hi
    refine we_eq (ds := [.fz S, .fz (.int (k : Int)), .ow P1, .fz (webD m ts), .fz (.int m), .fz (.list (ts.map tieD)), s6, s7, s8, s9, s10, s11, s12, s13, s14]) ?_ ?_
    · simp [webD, tgTup, tgsCons, tgsNil, tgName, put, m4, m5]
    walk_at "go"
    refine wq_repr (web_nc W).repr ?_
    refine ⟨m6, ?_⟩
    walk_at "go"
    refine ⟨_, _, rfl, ?_⟩
    walk_at "go"
    refine ⟨m7, ?_⟩
    generalize hK : PyData.str (webD m ts).shown = Kp
    walk_at "go"
    generalize hWD : webD m ts = WD
    refine for_step (k := 0) (fun n e => ∃ s8 s9 s10 s11, MP s8 ∧ MC s9 ∧ MP s10 ∧ MP s11 ∧ e = [.fz S, .fz (.int (k : Int)), .ow P1, .fz WD, .fz (.int m), .fz (.list (ts.map tieD)), .fz Kp, .ow (prD (ts.take n)), s8, s9, s10, s11, s12, s13, s14]) ⟨s8, s9, s10, s11, m8, m9, m10, m11, rfl⟩ ?_ ?_
    · clear m8 m9 m10 m11
      rintro i x _ hx ⟨s8, s9, s10, s11, m8, m9, m10, m11, rfl⟩
      simp only [Nat.zero_add]
      rw [List.getElem?_map, Option.map_eq_some_iff] at hx
      obtain ⟨t, ht, rfl⟩ := hx
      obtain ⟨st, n1, n2⟩ := prs_step W ht
      have hi := (List.getElem?_eq_some_iff.mp ht).1
      obtain ⟨a, b, p, q⟩ := t
      refine we_eq (ds := [.fz S, .fz (.int (k : Int)), .ow P1, .fz WD, .fz (.int m), .fz (.list (ts.map tieD)), .fz Kp, .ow (prD (ts.take i)), .fz (.int a), .fz (.int b), .fz (.int p), .fz (.int q), s12, s13, s14]) ?_ ?_
      · simp [tieD, tgTup, tgsCons, tgsNil, tgName, put, m8, m9.1, m10, m11]
      walk_at "go"
      refine wx_eq rfl ?_
      walk_at "go"
      refine we_putO (by with_unfolding_all rfl) (put_tupV (b := [a, b]) (by rw [prs_len, List.length_take]; omega) n1) ?_
      walk_at "go"
      refine wx_eq rfl ?_
      walk_at "go"
      refine we_putO (by with_unfolding_all rfl) (put_tupV (b := [b, a]) (by rw [List.length_append, prs_len, List.length_take]; simp; omega) n2) ?_
      refine ⟨.fz (.int a), .fz (.int b), .fz (.int p), .fz (.int q), rfl, ⟨rfl, rfl⟩, rfl, rfl, ?_⟩
      rw [show prD (ts.take (i + 1)) = .dict ((.bool true, .none) :: tupV (prs (ts.take (i + 1)))) from rfl, st]
      rfl
    clear m8 m9 m10 m11
    rintro _ ⟨s8, s9, s10, s11, m8, m9, m10, m11, rfl⟩
    have eT : ts.take (0 + (ts.map tieD).length) = ts := by rw [Nat.zero_add, List.length_map, List.take_length]
    rw [eT]
    clear eT
    walk_at "go"
    refine ⟨by omega, ?_⟩
    generalize hTS : PyData.list (ts.map tieD) = TS
    refine for_use (fun e => ∃ s8 s9 s12 s13, MP s8 ∧ MC s9 ∧ MP s12 ∧ MP s13 ∧ e = [.fz S, .fz (.int (k : Int)), .ow P1, .fz WD, .fz (.int m), .fz TS, .fz Kp, .ow (prD ts), s8, s9, s10, s11, s12, s13, s14]) ⟨s8, s9, s12, s13, m8, m9, m12, m13, rfl⟩ ?_ ?_
    · clear m8 m9 m12 m13
      rintro x hx _ ⟨s8, s9, s12, s13, m8, m9, m12, m13, rfl⟩
      obtain ⟨i, rfl, hi⟩ := rng_mem hx
      have i0 : (0 : Int) ≤ i := by omega
      have i1 : (i : Int) < m := by omega
      refine put_one (s := s8) m8 ?_
      walk_at "go"
      refine ⟨by omega, by simp [rng]; omega, ?_⟩
      refine we_eq (ds := [.fz S, .fz (.int (k : Int)), .ow P1, .fz WD, .fz (.int m), .fz TS, .fz Kp, .ow (prD ts), .fz (.int (i : Int)), .un, s10, s11, s12, s13, s14]) ?_ ?_
      · simp [wipeE, m9.2, wp]
      have lc := lc_filter (vs := [9]) (t := tgName 9) (p := bD (op2 gIn (.ex (eTup [(.ex (eVar 8)), (.ex (eVar 9))])) (.vr 7))) (f := eVar 9) (e0 := [.fz S, .fz (.int (k : Int)), .ow P1, .fz WD, .fz (.int m), .fz TS, .fz Kp, .ow (prD ts), .fz (.int (i : Int)), .un, s10, s11, s12, s13, s14]) (isN ts i) id (ds := rng 0 m.toNat) (fun x hx => by
        obtain ⟨j, rfl, hj⟩ := rng_mem hx
        refine put_one (s := .un) rfl ?_
        walk_at "go"
        refine wq_in (in_tupV (b := [(i : Int), (j : Int)])) ?_
        walk_at "go"
        refine ⟨by rw [Bool.eq_iff_iff]; simp only [isN, decide_eq_true_eq]; exact mem_keys, ?_⟩
        refine wc_s (fun q => ?_) (fun q => ?_)
        · walk_at "go"
          exact ⟨rfl, we_eq (by with_unfolding_all rfl) rfl⟩
        · exact we_eq (by with_unfolding_all rfl) rfl)
      refine ⟨_, _, lc, ?_⟩
      rw [rng_due]
      clear lc
      refine ⟨m12, ?_⟩
      walk_at "go"
      have nb : ∀ {Q : D ⊕ Ex → List D → Prop}, Q (.inl (.list ((dueL m ts i).map .int))) [] → Wfx (g_neighbours [WD, .int (i : Int)]) Q := fun {Q} hq => by
        rw [← hWD]
        refine wfx_use (nb_house W i0 i1) ?_
        rintro _ _ ⟨rfl, rfl⟩
        rw [due_nbs W]
        exact hq
      generalize hDL : (dueL m ts i).map PyData.int = DL at nb ⊢
      have ncD : Nc 1 1000 (.list DL) := hDL ▸ due_nc W i
      have lenD : DL.length ≤ 8 := by
        rw [← hDL]
        have := List.length_filter_le (fun (j : Nat) => decide (((i : Int), (j : Int)) ∈ prk ts)) (List.range m.toNat)
        simp only [dueL, List.length_map, List.length_range] at this ⊢
        omega
      refine nb ?_
      walk_at "go"
      refine ⟨m13, ?_⟩
      walk_at "go"
      refine wq_ne ncD.neS ?_
      walk_at "go"
      refine we_appO (by with_unfolding_all rfl) (by omega) ?_
      walk_at "go"
      refine nb ?_
      walk_at "go"
      refine wq_ne ncD.neS ?_
      walk_at "go"
      refine ⟨by omega, ?_⟩
      refine for_use (Q := Rs.on _) (fun e => ∃ s9, MC s9 ∧ e = [.fz S, .fz (.int (k : Int)), .ow P1, .fz WD, .fz (.int m), .fz TS, .fz Kp, .ow (prD ts), .fz (.int (i : Int)), s9, s10, s11, .ow (.list DL), .ow (.list (DL ++ [.none])), s14]) ⟨s9, m9, rfl⟩ ?_ ?_
      · rintro x hx _ ⟨s9, m9, rfl⟩
        obtain ⟨j, rfl, hj⟩ := rng_mem hx
        refine put_one (s := s9) m9.1 ?_
        walk_at "go"
        rw [← hWD]
        refine wfx_use (po_house W i0 i1 (j := (j : Int)) (by omega) (by omega)) ?_
        rintro _ _ ⟨rfl, rfl⟩
        rw [hWD]
        walk_at "go"
        refine ⟨rfl, ?_⟩
        walk_at "go"
        refine ⟨_, get_tupV (b := [(i : Int), (j : Int)]), ?_⟩
        walk_at "go"
        refine wq_ne (price_nc W i j).neS ?_
        walk_at "go"
        exact ⟨_, ⟨rfl, rfl⟩, rfl⟩
      · rintro _ ⟨s9, m9, rfl⟩
        exact ⟨_, _, _, _, rfl, m9, rfl, rfl, rfl⟩
    clear m8 m9 m12 m13
    rintro _ ⟨s8, s9, s12, s13, m8, m9, m12, m13, rfl⟩
    walk_at "go"
    rw [tk]
    refine take_use hP1 (by decide) (by decide) fun o P2 o0 o8 hP2 => ?_
    walk_at "go"
    refine wx_picks (P := Odd m) (odds hlo hhi) o0 (by simp; omega) fun od hod => ?_
    obtain ⟨od1, od2, od3⟩ := id hod
    refine ⟨m14, ?_⟩
    walk_at "go"
    have nh := (odd_nc hod).repr
    generalize hR : PyData.shown (.list [.str "house", od]) = R at nh
    rw [← hWD]
    refine wfx_use (nb_bad W od1 od2) ?_
    rintro _ _ ⟨rfl, rfl⟩
    rw [hWD]
    walk_at "go"
    refine wx_eq (refused_house od) ?_
    walk_at "go"
    refine wq_repr nh ?_
    walk_at "go"
    refine wq_repr nh ?_
    walk_at "go"
    refine wc_F (by simp) ?_
    walk_at "go"
    rw [← hWD]
    refine wfx_use (po_bad1 W od1 od2) ?_
    rintro _ _ ⟨rfl, rfl⟩
    rw [hWD]
    walk_at "go"
    refine wx_eq (refused_house od) ?_
    walk_at "go"
    refine wq_repr nh ?_
    walk_at "go"
    refine wq_repr nh ?_
    walk_at "go"
    refine wc_F (by simp) ?_
    walk_at "go"
    rw [← hWD]
    refine wfx_use (po_bad2 W od1 od2) ?_
    rintro _ _ ⟨rfl, rfl⟩
    rw [hWD]
    walk_at "go"
    refine wx_eq (refused_house od) ?_
    walk_at "go"
    refine wq_repr nh ?_
    walk_at "go"
    refine wq_repr nh ?_
    walk_at "go"
    refine wc_F (by simp) ?_
    walk_at "go"
    refine wq_repr (d := Kp) (by rw [← hWD, ← hK]; exact (web_nc W).repr) ?_
    walk_at "go"
    refine wq_ne (d := .bool false) (by rw [← hK, ne_str]; simp) ?_
    subst hTS
    walk_at "go"
    refine wfx_use (nb_noweb (more_th m ts) (due_more W)) ?_
    rintro _ _ ⟨rfl, rfl⟩
    walk_at "go"
    refine wx_eq (refused_web _) ?_
    walk_at "go"
    have nl : Nc 1 200 (.list [.str "web", .int ((ts.map tieD).length : Nat)]) := web_nc2 (nc_i (by simp; omega))
    by_cases h20 : ts.length < 20
    · rw [if_pos h20]
      refine wq_ne (d := .bool false) (by rw [List.length_map] at nl ⊢; exact nl.neS) ?_
      walk_at "go"
      refine wfx_use (po_noweb (w := .none) (n := .none) ⟨rfl, fun _ _ e => by cases e⟩ rfl) ?_
      rintro _ _ ⟨rfl, rfl⟩
      walk_at "go"
      refine wx_eq (refused_web _) ?_
      walk_at "go"
      refine wq_ne (web_nc2 nc_n).neS ?_
      walk_at "go"
      exact ⟨_, _, _, _, _, _, _, s8, s9, s10, s11, s12, s13, _, rfl, rfl, rfl, rfl, rfl, rfl, rfl, m8, m9, m10, m11, m12, m13, rfl, rfl⟩
    · rw [if_neg h20]
      refine wq_ne (d := .bool true) (by rw [(web_nc2 nc_n).ne nl]; simp [PyData.eqv, PyData.eqvAll]) ?_
      walk_at "go"
      refine wc_F (by simp; omega) ?_
      walk_at "go"
      refine wfx_use (po_noweb (w := .none) (n := .none) ⟨rfl, fun _ _ e => by cases e⟩ rfl) ?_
      rintro _ _ ⟨rfl, rfl⟩
      walk_at "go"
      refine wx_eq (refused_web _) ?_
      walk_at "go"
      refine wq_ne (web_nc2 nc_n).neS ?_
      walk_at "go"
      exact ⟨_, _, _, _, _, _, _, s8, s9, s10, s11, s12, s13, _, rfl, rfl, rfl, rfl, rfl, rfl, rfl, m8, m9, m10, m11, m12, m13, rfl, rfl⟩
  · rintro _ ⟨s1, s2, s3, s4, s5, s6, s7, s8, s9, s10, s11, s12, s13, s14, m1, m2, m3, m4, m5, m6, m7, m8, m9, m10, m11, m12, m13, m14, rfl⟩
    walk_at "go"
    exact ⟨rfl, rfl⟩
theorem law_true (ns : List Int) (hl : ns.length ≤ 63) : g_law [.dict [(.none, .list (ns.map .int))]] = some (.bool true, []) := (law_tells ns hl).eq
end K02

namespace K02
open PySem PySem.Spec PyProof.Rows L2 DL
/-! ### the head: facts by names -/
def D_is_whole : He.DefD := ⟨("is_whole", none), "is_whole", "is_whole", defArgs (top 8), defBody (top 8), defScope (top 8), [], []⟩
def D_is_house : He.DefD := ⟨("is_house", none), "is_house", "is_house", defArgs (top 9), defBody (top 9), defScope (top 9), [], []⟩
def D_is_price : He.DefD := ⟨("is_price", none), "is_price", "is_price", defArgs (top 10), defBody (top 10), defScope (top 10), [], []⟩
def D_is_tie : He.DefD := ⟨("is_tie", none), "is_tie", "is_tie", defArgs (top 11), defBody (top 11), defScope (top 11), [], []⟩
def D_look_at_web : He.DefD := ⟨("look_at_web", none), "look_at_web", "look_at_web", defArgs (top 12), defBody (top 12), defScope (top 12), [], []⟩
def D_prices_in : He.DefD := ⟨("prices_in", none), "prices_in", "prices_in", defArgs (top 13), defBody (top 13), defScope (top 13), [], []⟩
def D_look_at_house : He.DefD := ⟨("look_at_house", none), "look_at_house", "look_at_house", defArgs (top 14), defBody (top 14), defScope (top 14), [], []⟩
def D_neighbours : He.DefD := ⟨("neighbours", none), "neighbours", "neighbours", defArgs (top 15), defBody (top 15), defScope (top 15), [], []⟩
def D_price_of : He.DefD := ⟨("price_of", none), "price_of", "price_of", defArgs (top 16), defBody (top 16), defScope (top 16), [], []⟩
def D__law_cell_at : He.DefD := ⟨("_law_cell_at", none), "_law_cell_at", "_law_cell_at", defArgs (top 18), defBody (top 18), defScope (top 18), [], []⟩
def D__law_pool : He.DefD := ⟨("_law_pool", none), "_law_pool", "_law_pool", defArgs (top 19), defBody (top 19), defScope (top 19), [], []⟩
def D__law_take : He.DefD := ⟨("_law_take", none), "_law_take", "_law_take", defArgs (top 20), defBody (top 20), defScope (top 20), [], []⟩
def D__law_price : He.DefD := ⟨("_law_price", none), "_law_price", "_law_price", defArgs (top 21), defBody (top 21), defScope (top 21), [], []⟩
def D__law_web : He.DefD := ⟨("_law_web", none), "_law_web", "_law_web", defArgs (top 22), defBody (top 22), defScope (top 22), [], []⟩
def D__law_refused : He.DefD := ⟨("_law_refused", none), "_law_refused", "_law_refused", defArgs (top 23), defBody (top 23), defScope (top 23), [], []⟩
def D_law : He.DefD := ⟨("law", none), "law", "law", defArgs (top 24), defBody (top 24), defScope (top 24), [], []⟩
def D_NoHouse_init : He.DefD := ⟨("NoHouse", some "__init__"), "__init__", "NoHouse.__init__", defArgs (mth (top 3) 0), defBody (mth (top 3) 0), defScope (mth (top 3) 0), [], []⟩
def D_NoWeb_init : He.DefD := ⟨("NoWeb", some "__init__"), "__init__", "NoWeb.__init__", defArgs (mth (top 2) 0), defBody (mth (top 2) 0), defScope (mth (top 2) 0), [], []⟩
def fnl : List He.DefD := [D_is_whole, D_is_house, D_is_price, D_is_tie, D_look_at_web, D_prices_in, D_look_at_house, D_neighbours, D_price_of, D__law_cell_at, D__law_pool, D__law_take, D__law_price, D__law_web, D__law_refused, D_law, D_NoHouse_init, D_NoWeb_init]
def fal : List He.Fa := [.glo "is_whole", .glo "is_house", .glo "is_price", .glo "is_tie", .glo "look_at_web", .glo "prices_in", .glo "look_at_house", .glo "neighbours", .glo "price_of", .glo "_law_cell_at", .glo "_law_pool", .glo "_law_take", .glo "_law_price", .glo "_law_web", .glo "_law_refused", .glo "law", .glo "HeraldError", .glo "NoHouse", .glo "NoWeb", .free "IndexError", .free "bool", .free "enumerate", .free "int", .free "isinstance", .free "len", .free "list", .free "max", .free "min", .free "range", .free "repr", .free "sorted", .free "tuple", .int "MOST_HOUSES" 8, .int "MOST_PRICE" 99, .int "MOST_TIES" 20]
def exB (K : PySem.W.Frag) : Bool := exmB K (.ref (He.ga K "NoHouse")) (.ref (He.ga K "NoHouse")) true && (exmB K (.ref (He.ga K "NoHouse")) (.ref (He.ga K "NoWeb")) false && (exmB K (.ref (He.ga K "NoWeb")) (.ref (He.ga K "NoHouse")) false && (exmB K (.ref (He.ga K "NoWeb")) (.ref (He.ga K "NoWeb")) true && (excCB K (He.ga K "NoHouse") && (excCB K (He.ga K "NoWeb") && (kitOneB K (.type "NoneType") (.ref (He.ga K "HeraldError")) false && (kitOneB K (.ref (He.ga K "NoHouse")) (.ref (He.ga K "HeraldError")) false && (kitOneB K (.ref (He.ga K "NoWeb")) (.ref (He.ga K "HeraldError")) true && (kitOneB K (.type "NoneType") (.type "IndexError") false && (kitOneB K (.ref (He.ga K "NoHouse")) (.type "IndexError") true && (kitOneB K (.ref (He.ga K "NoWeb")) (.type "IndexError") false && ((xfB K (He.ga K "NoHouse") && noatB K (He.ga K "NoHouse") "house") && ((xfB K (He.ga K "NoWeb") && noatB K (He.ga K "NoWeb") "number") && ((oxBB K (He.ga K "NoHouse") "IndexError.__new__" tlIndex "house" && initB K (He.ga K "NoHouse")) && ((oexB K (He.ga K "NoWeb") && (initB K (He.ga K "NoWeb") && noatB K (He.ga K "NoWeb") "number")) && (baseB K (He.ga K "HeraldError") && (binB K "IndexError" "IndexError.__init__" && (true))))))))))))))))))
abbrev Rw : PySem.W.OpenRow := PySem.W.OpenLaw.row PySem.Challenge.rw_linkheralds_k02_neighbours_and_prices
def csT (K : PySem.W.Frag) : List (Addr × Addr) := [He.cT K ("law", none)]
def TT (K : PySem.W.Frag) : TbT := [((He.cT K ("law", none)).2, "law.<locals>.<lambda>")]
abbrev hk : PySem.W.Hook := hookZ 4 fal fnl [("law", none)] exB
def ob (s : PySem.W.SharedT) : He.AlX := obsZ 4 fal fnl [("law", none)] exB (HandSHeadRun.getT s)
theorem ob_eq (s : PySem.W.SharedT) : ob s = hk.obs s.abs := obsZ_eq (HandSHeadRun.getT_eq s)
theorem run (w : World) : HandSHeadRun.RunEq Rw (PySem.W.view Rw.prog [24]) hk ob 20000 ["HeraldError", "NoWeb", "NoHouse", "MOST_HOUSES", "MOST_TIES", "MOST_PRICE", "is_whole", "is_house", "is_price", "is_tie", "look_at_web", "prices_in", "look_at_house", "neighbours", "price_of", "_law_cell_at", "_law_pool", "_law_take", "_law_price", "_law_web", "_law_refused"] w := by
  intro os
  kernel_rfl
theorem facts {P : Program} {w : World} {K : PySem.W.Frag} {h : Heap} {mg : Str → Option Value} {f : Addr} (X : K.In h) (G : h.Ns mainGlobals mg) (hfa : mg ("law" : Str) = some (.ref f)) (cc : He.SaysX fal fnl [] [("law", none)] exB w h K) :
    ∃ fd : FuncData, (∀ (s : Shared) (v : Value), BindsTo s fd ⟨[v], []⟩ [("_law_script", v)]) ∧ ∀ base : Heap, K.In base → base.Ns mainGlobals mg → (∀ p ∈ csT K, LamX.TabB base mg p.1 p.2) → FnOkG P w K mg base 8 f fd ["_law_script"] (spD ⟨K, mg, TT K⟩ [false] .fz g_law) := by
  have c := cc.t.d
  have x := cc.more
  obtain ⟨q_x_NoHouse_NoHouse, x⟩ := He.ba x
  obtain ⟨q_x_NoHouse_NoWeb, x⟩ := He.ba x
  obtain ⟨q_x_NoWeb_NoHouse, x⟩ := He.ba x
  obtain ⟨q_x_NoWeb_NoWeb, x⟩ := He.ba x
  obtain ⟨q_e_NoHouse, x⟩ := He.ba x
  obtain ⟨q_e_NoWeb, x⟩ := He.ba x
  obtain ⟨q_n_HeraldError, x⟩ := He.ba x
  obtain ⟨q_k_NoHouse_HeraldError, x⟩ := He.ba x
  obtain ⟨q_k_NoWeb_HeraldError, x⟩ := He.ba x
  obtain ⟨q_bn_IndexError, x⟩ := He.ba x
  obtain ⟨q_b_NoHouse_IndexError, x⟩ := He.ba x
  obtain ⟨q_b_NoWeb_IndexError, x⟩ := He.ba x
  obtain ⟨q_f_NoHouse_house, x⟩ := He.ba x
  obtain ⟨q_f_NoWeb_number, x⟩ := He.ba x
  obtain ⟨q_r1_NoHouse, x⟩ := He.ba x
  obtain ⟨q_r1_NoWeb, x⟩ := He.ba x
  obtain ⟨q_ba_HeraldError, x⟩ := He.ba x
  obtain ⟨q_bi_IndexError, x⟩ := He.ba x
  have Z : Zs K mg := ⟨He.free_ok X G (c.fact 19 (f := .free "IndexError") rfl), He.free_ok X G (c.fact 20 (f := .free "bool") rfl), He.free_ok X G (c.fact 21 (f := .free "enumerate") rfl), He.free_ok X G (c.fact 22 (f := .free "int") rfl), He.free_ok X G (c.fact 23 (f := .free "isinstance") rfl), He.free_ok X G (c.fact 24 (f := .free "len") rfl), He.free_ok X G (c.fact 25 (f := .free "list") rfl), He.free_ok X G (c.fact 26 (f := .free "max") rfl), He.free_ok X G (c.fact 27 (f := .free "min") rfl), He.free_ok X G (c.fact 28 (f := .free "range") rfl), He.free_ok X G (c.fact 29 (f := .free "repr") rfl), He.free_ok X G (c.fact 30 (f := .free "sorted") rfl), He.free_ok X G (c.fact 31 (f := .free "tuple") rfl), He.int_ok X G (c.fact 32 (f := .int "MOST_HOUSES" 8) rfl), He.int_ok X G (c.fact 33 (f := .int "MOST_PRICE" 99) rfl), He.int_ok X G (c.fact 34 (f := .int "MOST_TIES" 20) rfl), He.glo_ok X G (c.fact 16 (f := .glo "HeraldError") rfl), He.glo_ok X G (c.fact 17 (f := .glo "NoHouse") rfl), He.glo_ok X G (c.fact 18 (f := .glo "NoWeb") rfl), of_decide_eq_true q_x_NoHouse_NoHouse, of_decide_eq_true q_x_NoHouse_NoWeb, of_decide_eq_true q_x_NoWeb_NoHouse, of_decide_eq_true q_x_NoWeb_NoWeb, excCB_ok q_e_NoHouse, excCB_ok q_e_NoWeb, of_decide_eq_true q_n_HeraldError, of_decide_eq_true q_k_NoHouse_HeraldError, of_decide_eq_true q_k_NoWeb_HeraldError, of_decide_eq_true q_bn_IndexError, of_decide_eq_true q_b_NoHouse_IndexError, of_decide_eq_true q_b_NoWeb_IndexError, xfa_ok q_f_NoHouse_house, xfa_ok q_f_NoWeb_number⟩
  obtain ⟨fd_is_whole, F_is_whole⟩ := c.def_ 0 (d := D_is_whole) rfl
  have m_is_whole : mg "is_whole" = _ := He.glo_ok X G (c.fact 0 (f := .glo "is_whole") rfl)
  have b_is_whole : Binds K fd_is_whole ["thing"] [] := FunD.bindsN F_is_whole fun _ _ _ _ _ _ us hl => match us, hl with | [_], _ => rfl
  obtain ⟨fd_is_house, F_is_house⟩ := c.def_ 1 (d := D_is_house) rfl
  have m_is_house : mg "is_house" = _ := He.glo_ok X G (c.fact 1 (f := .glo "is_house") rfl)
  have b_is_house : Binds K fd_is_house ["many", "thing"] [] := FunD.bindsN F_is_house fun _ _ _ _ _ _ us hl => match us, hl with | [_, _], _ => rfl
  obtain ⟨fd_is_price, F_is_price⟩ := c.def_ 2 (d := D_is_price) rfl
  have m_is_price : mg "is_price" = _ := He.glo_ok X G (c.fact 2 (f := .glo "is_price") rfl)
  have b_is_price : Binds K fd_is_price ["thing"] [] := FunD.bindsN F_is_price fun _ _ _ _ _ _ us hl => match us, hl with | [_], _ => rfl
  obtain ⟨fd_is_tie, F_is_tie⟩ := c.def_ 3 (d := D_is_tie) rfl
  have m_is_tie : mg "is_tie" = _ := He.glo_ok X G (c.fact 3 (f := .glo "is_tie") rfl)
  have b_is_tie : Binds K fd_is_tie ["many", "thing"] [] := FunD.bindsN F_is_tie fun _ _ _ _ _ _ us hl => match us, hl with | [_, _], _ => rfl
  obtain ⟨fd_look_at_web, F_look_at_web⟩ := c.def_ 4 (d := D_look_at_web) rfl
  have m_look_at_web : mg "look_at_web" = _ := He.glo_ok X G (c.fact 4 (f := .glo "look_at_web") rfl)
  have b_look_at_web : Binds K fd_look_at_web ["thing"] [] := FunD.bindsN F_look_at_web fun _ _ _ _ _ _ us hl => match us, hl with | [_], _ => rfl
  obtain ⟨fd_prices_in, F_prices_in⟩ := c.def_ 5 (d := D_prices_in) rfl
  have m_prices_in : mg "prices_in" = _ := He.glo_ok X G (c.fact 5 (f := .glo "prices_in") rfl)
  have b_prices_in : Binds K fd_prices_in ["web"] [] := FunD.bindsN F_prices_in fun _ _ _ _ _ _ us hl => match us, hl with | [_], _ => rfl
  obtain ⟨fd_look_at_house, F_look_at_house⟩ := c.def_ 6 (d := D_look_at_house) rfl
  have m_look_at_house : mg "look_at_house" = _ := He.glo_ok X G (c.fact 6 (f := .glo "look_at_house") rfl)
  have b_look_at_house : Binds K fd_look_at_house ["web", "house"] [] := FunD.bindsN F_look_at_house fun _ _ _ _ _ _ us hl => match us, hl with | [_, _], _ => rfl
  obtain ⟨fd_neighbours, F_neighbours⟩ := c.def_ 7 (d := D_neighbours) rfl
  have m_neighbours : mg "neighbours" = _ := He.glo_ok X G (c.fact 7 (f := .glo "neighbours") rfl)
  have b_neighbours : Binds K fd_neighbours ["web", "house"] [] := FunD.bindsN F_neighbours fun _ _ _ _ _ _ us hl => match us, hl with | [_, _], _ => rfl
  obtain ⟨fd_price_of, F_price_of⟩ := c.def_ 8 (d := D_price_of) rfl
  have m_price_of : mg "price_of" = _ := He.glo_ok X G (c.fact 8 (f := .glo "price_of") rfl)
  have b_price_of : Binds K fd_price_of ["web", "one", "other"] [] := FunD.bindsN F_price_of fun _ _ _ _ _ _ us hl => match us, hl with | [_, _, _], _ => rfl
  obtain ⟨fd__law_cell_at, F__law_cell_at⟩ := c.def_ 9 (d := D__law_cell_at) rfl
  have m__law_cell_at : mg "_law_cell_at" = _ := He.glo_ok X G (c.fact 9 (f := .glo "_law_cell_at") rfl)
  have b__law_cell_at : Binds K fd__law_cell_at ["_law_script", "_law_k"] [] := FunD.bindsN F__law_cell_at fun _ _ _ _ _ _ us hl => match us, hl with | [_, _], _ => rfl
  obtain ⟨fd__law_pool, F__law_pool⟩ := c.def_ 10 (d := D__law_pool) rfl
  have m__law_pool : mg "_law_pool" = _ := He.glo_ok X G (c.fact 10 (f := .glo "_law_pool") rfl)
  have b__law_pool : Binds K fd__law_pool ["_law_script", "_law_k"] [] := FunD.bindsN F__law_pool fun _ _ _ _ _ _ us hl => match us, hl with | [_, _], _ => rfl
  obtain ⟨fd__law_take, F__law_take⟩ := c.def_ 11 (d := D__law_take) rfl
  have m__law_take : mg "_law_take" = _ := He.glo_ok X G (c.fact 11 (f := .glo "_law_take") rfl)
  have b__law_take : Binds K fd__law_take ["_law_pool_here", "_law_many"] [] := FunD.bindsN F__law_take fun _ _ _ _ _ _ us hl => match us, hl with | [_, _], _ => rfl
  obtain ⟨fd__law_price, F__law_price⟩ := c.def_ 12 (d := D__law_price) rfl
  have m__law_price : mg "_law_price" = _ := He.glo_ok X G (c.fact 12 (f := .glo "_law_price") rfl)
  have b__law_price : Binds K fd__law_price ["_law_pool_here"] [] := FunD.bindsN F__law_price fun _ _ _ _ _ _ us hl => match us, hl with | [_], _ => rfl
  obtain ⟨fd__law_web, F__law_web⟩ := c.def_ 13 (d := D__law_web) rfl
  have m__law_web : mg "_law_web" = _ := He.glo_ok X G (c.fact 13 (f := .glo "_law_web") rfl)
  have b__law_web : Binds K fd__law_web ["_law_pool_here", "_law_most"] [] := FunD.bindsN F__law_web fun _ _ _ _ _ _ us hl => match us, hl with | [_, _], _ => rfl
  obtain ⟨fd__law_refused, F__law_refused⟩ := c.def_ 14 (d := D__law_refused) rfl
  have m__law_refused : mg "_law_refused" = _ := He.glo_ok X G (c.fact 14 (f := .glo "_law_refused") rfl)
  have b__law_refused : Binds K fd__law_refused ["_law_call"] [] := FunD.bindsN F__law_refused fun _ _ _ _ _ _ us hl => match us, hl with | [_], _ => rfl
  obtain ⟨fd_law, F_law⟩ := c.def_ 15 (d := D_law) rfl
  have m_law : mg "law" = _ := He.glo_ok X G (c.fact 15 (f := .glo "law") rfl)
  obtain ⟨fi_NoHouse, I_NoHouse⟩ := c.def_ 16 (d := D_NoHouse_init) rfl
  obtain ⟨fi_NoWeb, I_NoWeb⟩ := c.def_ 17 (d := D_NoWeb_init) rfl
  have m_HeraldError : mg "HeraldError" = _ := He.glo_ok X G (c.fact 16 (f := .glo "HeraldError") rfl)
  have m_NoHouse : mg "NoHouse" = _ := He.glo_ok X G (c.fact 17 (f := .glo "NoHouse") rfl)
  have m_NoWeb : mg "NoWeb" = _ := He.glo_ok X G (c.fact 18 (f := .glo "NoWeb") rfl)
  have e := hfa.symm.trans m_law
  cases e
  have b := FunD.bindsA (ps := ["_law_script"]) F_law fun _ _ _ _ _ _ us hl => match us, hl with | [_], _ => rfl
  refine ⟨fd_law, fun s v => b s [v] rfl, fun base _ _ hTB => ?_⟩
  have L_law : LamAt base mg (TT K) fd_law.code "law.<locals>.<lambda>" := ⟨_, _, code_at F_law, hTB (He.cT K ("law", none)) (List.mem_cons_self ..), List.mem_cons_self .., fun p hp _ => by rw [List.mem_singleton.mp hp]⟩
  have E_NoHouse : GotB P w K mg base 1 "NoHouse" "house" := by
    obtain ⟨o1, o2⟩ := He.ba q_r1_NoHouse
    obtain ⟨p1, p2⟩ := oxBB_ok o1
    have sc : FnScope ["self", "house"] ["self", "house"] (defScope (mth (top 3) 0)) := ⟨rfl, rfl, rfl, by decide +kernel, rfl, by decide +kernel, by decide +kernel⟩
    exact ⟨_, _, _, _, _, _, _, _, bx_Index, m_NoHouse, p1, (initB_ok o2).1, (initB_ok o2).2, ok_initB bx_Index I_NoHouse sc (.inl rfl) (.inl rfl) rfl Z.z_IndexError PyProof.Rows.Boot.«IndexError» (by decide) (binB_ok q_bi_IndexError).1 (binB_ok q_bi_IndexError).2 p1 p2, FunD.bindsN I_NoHouse fun _ _ _ _ _ _ us hl => match us, hl with | [_, _], _ => rfl⟩
  have E_NoWeb : GotE P w K mg base 1 "NoWeb" "number" := by
    obtain ⟨o1, y⟩ := He.ba q_r1_NoWeb
    obtain ⟨o2, o3⟩ := He.ba y
    have sc : FnScope ["self", "number"] ["self", "number"] (defScope (mth (top 2) 0)) := ⟨rfl, rfl, rfl, by decide +kernel, rfl, by decide +kernel, by decide +kernel⟩
    exact ⟨_, _, _, _, m_NoWeb, oexB_ok o1, (initB_ok o2).1, (initB_ok o2).2, ok_init I_NoWeb sc (.inl rfl) (.inl rfl) rfl m_HeraldError (baseB_ok q_ba_HeraldError) (oexB_ok o1) (of_decide_eq_true o3), FunD.bindsN I_NoWeb fun _ _ _ _ _ _ us hl => match us, hl with | [_, _], _ => rfl⟩
  have G_is_whole : Got P w K mg base 1 "is_whole" ["thing"] (spD ⟨K, mg, TT K⟩ [false] .fz g_is_whole) := ⟨_, _, ok_is_whole F_is_whole Z , m_is_whole, F_is_whole.kp, b_is_whole⟩
  have G_is_house : Got P w K mg base 2 "is_house" ["many", "thing"] (spD ⟨K, mg, TT K⟩ [false, false] .fz g_is_house) := ⟨_, _, ok_is_house F_is_house Z G_is_whole, m_is_house, F_is_house.kp, b_is_house⟩
  have G_is_price : Got P w K mg base 2 "is_price" ["thing"] (spD ⟨K, mg, TT K⟩ [false] .fz g_is_price) := ⟨_, _, ok_is_price F_is_price Z G_is_whole, m_is_price, F_is_price.kp, b_is_price⟩
  have G_is_tie : Got P w K mg base 3 "is_tie" ["many", "thing"] (spD ⟨K, mg, TT K⟩ [false, false] .fz g_is_tie) := ⟨_, _, ok_is_tie F_is_tie Z G_is_price G_is_house, m_is_tie, F_is_tie.kp, b_is_tie⟩
  have G_look_at_web : GotX P w K mg base 4 "look_at_web" ["thing"] (spX ⟨K, mg, TT K⟩ [false] .fz g_look_at_web) := ⟨_, _, ok_look_at_web F_look_at_web Z G_is_whole G_is_tie E_NoWeb, m_look_at_web, F_look_at_web.kp, b_look_at_web⟩
  have G_prices_in : Got P w K mg base 1 "prices_in" ["web"] (spD ⟨K, mg, TT K⟩ [false] .nw g_prices_in) := ⟨_, _, ok_prices_in F_prices_in Z , m_prices_in, F_prices_in.kp, b_prices_in⟩
  have G_look_at_house : GotX P w K mg base 3 "look_at_house" ["web", "house"] (spX ⟨K, mg, TT K⟩ [false, false] .fz g_look_at_house) := ⟨_, _, ok_look_at_house F_look_at_house Z G_is_house E_NoHouse, m_look_at_house, F_look_at_house.kp, b_look_at_house⟩
  have G_neighbours : GotX P w K mg base 5 "neighbours" ["web", "house"] (spX ⟨K, mg, TT K⟩ [false, false] .nw g_neighbours) := ⟨_, _, ok_neighbours F_neighbours Z G_look_at_web G_look_at_house G_prices_in, m_neighbours, F_neighbours.kp, b_neighbours⟩
  have G_price_of : GotX P w K mg base 5 "price_of" ["web", "one", "other"] (spX ⟨K, mg, TT K⟩ [false, false, false] .fz g_price_of) := ⟨_, _, ok_price_of F_price_of Z G_look_at_web G_look_at_house G_prices_in, m_price_of, F_price_of.kp, b_price_of⟩
  have G__law_cell_at : Got P w K mg base 1 "_law_cell_at" ["_law_script", "_law_k"] (spD ⟨K, mg, TT K⟩ [false, false] .fz g__law_cell_at) := ⟨_, _, ok__law_cell_at F__law_cell_at Z , m__law_cell_at, F__law_cell_at.kp, b__law_cell_at⟩
  have G__law_pool : Got P w K mg base 2 "_law_pool" ["_law_script", "_law_k"] (spD ⟨K, mg, TT K⟩ [false, false] .nw g__law_pool) := ⟨_, _, ok__law_pool F__law_pool Z G__law_cell_at, m__law_pool, F__law_pool.kp, b__law_pool⟩
  have G__law_take : Got P w K mg base 1 "_law_take" ["_law_pool_here", "_law_many"] (spD ⟨K, mg, TT K⟩ [true, false] .fz g__law_take) := ⟨_, _, ok__law_take F__law_take Z , m__law_take, F__law_take.kp, b__law_take⟩
  have G__law_price : Got P w K mg base 2 "_law_price" ["_law_pool_here"] (spD ⟨K, mg, TT K⟩ [true] .fz g__law_price) := ⟨_, _, ok__law_price F__law_price Z G__law_take, m__law_price, F__law_price.kp, b__law_price⟩
  have G__law_web : Got P w K mg base 3 "_law_web" ["_law_pool_here", "_law_most"] (spD ⟨K, mg, TT K⟩ [true, false] .fz g__law_web) := ⟨_, _, ok__law_web F__law_web Z G__law_take G__law_price, m__law_web, F__law_web.kp, b__law_web⟩
  have G__law_refused : GotL P w K mg base (TT K) 5 "_law_refused" h__law_refused := ok__law_refused F__law_refused Z  m__law_refused b__law_refused
  exact ok_law F_law Z G__law_pool G__law_web G_neighbours G__law_take G__law_refused G_price_of L_law
end K02

open PySem PySem.W PySem.Calls PyProof.Rows
set_option maxHeartbeats 0 in
theorem PySem.Challenge.cw_linkheralds_k02_neighbours_and_prices_holds : PySem.Challenge.rw_linkheralds_k02_neighbours_and_prices.Holds := by
  w_on; o_law
  refine HandSHeadRun.head_any (r := OpenLaw.row PySem.Challenge.rw_linkheralds_k02_neighbours_and_prices) (q := view (OpenLaw.row PySem.Challenge.rw_linkheralds_k02_neighbours_and_prices).prog [24]) (H := K02.hk) (ob := K02.ob) (M := 20000) (loose := ["HeraldError", "NoWeb", "NoHouse", "MOST_HOUSES", "MOST_TIES", "MOST_PRICE", "is_whole", "is_house", "is_price", "is_tie", "look_at_web", "prices_in", "look_at_house", "neighbours", "price_of", "_law_cell_at", "_law_pool", "_law_take", "_law_price", "_law_web", "_law_refused"]) (d := HandSHeadRun.topDef (OpenLaw.row PySem.Challenge.rw_linkheralds_k02_neighbours_and_prices).prog 24) (kwd := []) K02.ob_eq
    (by kernel_rfl) (fun s => by kernel_rfl) K02.run (by kernel_rfl) (by kernel_rfl) (by kernel_rfl) (by rfl) (by first | assumption | decide +kernel) (by decide +kernel) ⟨rfl, rfl, rfl, rfl, rfl, by decide +kernel⟩ ?hw ?hc
  case hw => w_witness2
  case hc =>
    refine DL.walkGT (l := PySem.Challenge.rw_linkheralds_k02_neighbours_and_prices) (n := 63) (k := 8) (x := "_law_script") rfl (by decide) (by kernel_rfl) ⟨rfl, by decide, by decide⟩ ?G
    intro w mg fa h Y G hmg0
    obtain ⟨K, KX, c⟩ := Y
    have hmg : mg ("law" : PySem.Str) = some (.ref fa) := by
      have e : (HandSHeadRun.topDef (OpenLaw.row PySem.Challenge.rw_linkheralds_k02_neighbours_and_prices).prog 24).name = ("law" : PySem.Str) := by kernel_rfl
      rw [← e]
      exact hmg0
    obtain ⟨fd, hb, hF⟩ := K02.facts (P := (PySem.Challenge.rw_linkheralds_k02_neighbours_and_prices).prog) (w := w) KX G hmg c
    exact ⟨K, fd, _, K02.csT K, KX, (fun p hp => by obtain rfl := List.mem_singleton.mp hp; exact c.empty _ (List.mem_cons_self ..)), (fun p hp => by obtain rfl := List.mem_singleton.mp hp; exact c.out _ (List.mem_cons_self ..)), (fun p hp => by obtain rfl := List.mem_singleton.mp hp; exact PySem.W.codeHd_of_K KX (c.hd _ (List.mem_cons_self ..))), hb, fun H a ns hl hH hS => DL.spD_law (K02.law_true ns hl) (fun p hp => by obtain rfl := List.mem_singleton.mp hp; exact LamX.TabS.nil (hH _ (List.mem_cons_self ..))) hS, hF⟩

