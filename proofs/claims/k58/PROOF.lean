import PyProof.Rows.All
import Wide.All
import OpenK.AllK
import Wide.FinOn
import HandS.ForMost
import HandS.Exc
import HandS.ExcOwn
import HandS.ExcInit
import HandS.ExcIs
import HandS.ExcField
import HandS.Lambda
import HandS.IsInst
import HandS.TupAny
import HandS.TupMul
import HandS.Wide
import HandS.More
import HandS.Zip
import HandS.Style
import KE.GoesEnum
import HandS.Defaults
import HandS.Dict
import HandS.Deep
import HandS.Iter
import HandS.SortInts
import HandS.DictComp
import KE.KUnpackStar
import HandS.SortOrd
import HandS.SortRule
import HandS.ListItems
import HandS.SetKeys
import KE.KDictCopyH
import HandS.ExcValue
import HandS.Head0
import HandS.Head1
import HandS.Head2
import HandS.HeadEnd
import HandS.HeadHook1
import HandS.HeadHook2
import HandS.HeadHook4
import HandS.EndTab
import KE.KExcInit
import KE.DataCmp
import KE.DataMinKey
import KE.SortKeyHeap
import KE.KEqDict
import HandS.Finally
import HandS.SetFor
import PyProof.DictUpdate
import HandS.Strs
import HandS.Flow
import KE.KDictZip
import KE.KDictPairs
import KE.LtSeq
import KE.KSortAsk
import HandS.SetBool
import HandS.TupSets
import HandS.RaiseFrom
import HandS.SuiteRaise
import KE.GoesEnumKw
import KE.DataMinMax
import KE.KAssignIn
import HandS.Conv
import HandS.OwnEq
import HandS.FStr
import KE.GoesZip
import HandS.ExcInitHot
import HandS.RaiseMore
import PySem.Challenge.RW_linkheralds_k58_texts_written_and_read
import KE.KStateDown
set_option Elab.async false
set_option linter.all false
set_option maxRecDepth 100000
set_option maxHeartbeats 4000000
set_option autoImplicit false
namespace DL
open PySem L2
abbrev D := PyData
abbrev Fr := PySem.W.Frag
abbrev TbT := List (Addr × Str)
/-- what is known of the text: its objects, its names, the tables of its lambdas' makers -/
structure Kg where
  fr : PySem.W.Frag
  mg : Str → Option Value
  T : TbT
abbrev Fg := Kg
abbrev _root_.L2.Cx.kg (X : L2.Cx) (T : TbT) : Kg := ⟨X.K, X.mg, T⟩
/-- a mark in F: the object there is a part of a name's own tree -/
def Mk : HO → Bool
  | .own _ => true
  | _ => false
/-- F's objects stand in G (marks may go) -/
def Sub (F G : Hp) : Prop := ∀ a o, F a = some o → Mk o = false → G a = some o
theorem Sub.refl (F : Hp) : Sub F F := fun _ _ h _ => h
theorem Sub.trans {F G H : Hp} (s : Sub F G) (t : Sub G H) : Sub F H := fun a o h m => t a o (s a o h m) m
theorem Sub.new {F : Hp} {p : Addr} {o : HO} (h : F p = none) : Sub F (upd F p o) := fun a u e _ => by
  rw [upd_ne (ne_of_none e h)]; exact e
/-- a dict: what a loop may lock -/
def IsDct : HO → Prop
  | .dK _ => True
  | .dT _ => True
  | _ => False
/-- F's objects stand in H, dicts perhaps locked -/
def Lk (F H : Hp) : Prop := ∀ a o, F a = some o → H a = some o ∨ (IsDct o ∧ ∃ ob, H a = some (.frz ob o)) ∨ (Mk o = true ∧ H a ≠ none)
theorem Lk.lst {F H : Hp} (s : Lk F H) {a : Addr} {xs : List V} (h : F a = some (.lst xs)) : H a = some (.lst xs) := by
  rcases s a _ h with h | ⟨z, _⟩ | ⟨z, _⟩
  · exact h
  · exact z.elim
  · cases z
theorem Lk.tup {F H : Hp} (s : Lk F H) {a : Addr} {xs : List V} (h : F a = some (.tup xs)) : H a = some (.tup xs) := by
  rcases s a _ h with h | ⟨z, _⟩ | ⟨z, _⟩
  · exact h
  · exact z.elim
  · cases z
theorem Lk.rd {F H : Hp} (s : Lk F H) {a : Addr} {u : HO} (m : Mk u = false) (h : Rd F a u) : Rd H a u := by
  rcases h with h | ⟨ob, h⟩
  · rcases s a _ h with h | ⟨_, ob, h⟩ | ⟨z, _⟩
    · exact .inl h
    · exact .inr ⟨ob, h⟩
    · rw [m] at z; cases z
  · rcases s a _ h with h | ⟨b, _⟩ | ⟨z, _⟩
    · exact .inr ⟨ob, h⟩
    · exact b.elim
    · cases z
theorem Lk.sqL {K : Fg} {F H : Hp} (s : Lk F H) {a : Addr} {xs : List V} (h : SqL K.fr F a xs) : SqL K.fr H a xs := by
  rcases h with h | h
  · exact .inl (s.rd rfl h)
  · exact .inr h
theorem Lk.none {F H : Hp} (s : Lk F H) {a : Addr} (h : H a = none) : F a = none := by
  cases e : F a with
  | none => rfl
  | some o =>
    rcases s a o e with q | ⟨_, ob, q⟩ | ⟨_, q⟩
    · rw [h] at q; cases q
    · rw [h] at q; cases q
    · exact absurd h q
def kD : Key → D
  | .inl i => .int i
  | .inr x => .str x
/-- a caught exception's object -/
def ExO (a : Addr) (cls : Value) (dd : Option Addr) : HO := .ext fun h => ∃ oe, h.get? a = some oe ∧ Zc cls dd oe ∧ ∃ vs, oe.data = .fields vs
/-- an exception as data -/
def excD (c : Str) : Option (Str × D) → D
  | none => .dict [(.bool false, .str c)]
  | some (f, d) => .dict [(.bool false, .str c), (.str f, d)]
/-- the tag of an instance of the class named c -/
def tagD (c : Str) : D × D := (.bool false, .tuple [.none, .str c])
mutual
/-- the value v is the data d, all of whose objects stand in F -/
inductive Dt (K : Fg) (F : Hp) : V → D → Prop
  | non : Dt K F .non .none
  | bl (b : Bool) : Dt K F (.bl b) (.bool b)
  | int (i : Int) : Dt K F (.int i) (.int i)
  | str (x : Str) : Dt K F (.str x) (.str x)
  | lst {a : Addr} {xs : List V} {ds : List D} : F a = some (.lst xs) → DtA K F xs ds → Dt K F (.ref a) (.list ds)
  | tup {a : Addr} {xs : List V} {ds : List D} : F a = some (.tup xs) → DtA K F xs ds → Dt K F (.ref a) (.tuple ds)
  | scr {a : Addr} {ns : List Int} : SqL K.fr F a (ns.map V.int) → Dt K F (.ref a) (.dict [(.none, .list (ns.map .int))])
  | dk {a : Addr} {kvs : List (Key × V)} {es : List (D × D)} : F a = some (.dK kvs) → DtK K F kvs es → Dt K F (.ref a) (.dict es)
  | dt {a : Addr} {kvs : List (List Key × V)} {es : List (D × D)} : F a = some (.dT kvs) → DtT K F kvs es → Dt K F (.ref a) (.dict ((.bool true, .none) :: es))
  | exc {a C : Addr} {c : Str} : K.mg c = some (.ref C) → F a = some (ExO a (.ref C) none) → Dt K F (.ref a) (.dict [(.bool false, .str c)])
  | exf {a C dd : Addr} {c f : Str} {v : V} {d : D} : K.mg c = some (.ref C) → F a = some (ExO a (.ref C) (some dd)) → F dd = some (.xd [(f, v)]) → Dt K F v d → Dt K F (.ref a) (.dict [(.bool false, .str c), (.str f, d)])
  | fn {a : Addr} {c : Str} : K.mg c = some (.ref a) → Dt K F (.ref a) (.dict [(.bool false, .tuple [.str c])])
  | ins {a C dx : Addr} {c : Str} {fs : List (Str × V)} {es : List (D × D)} : K.mg c = some (.ref C) → F a = some (.ins C dx fs) → DtF K F fs es → Dt K F (.ref a) (.dict ((.bool false, .tuple [.none, .str c]) :: es))
inductive DtF (K : Fg) (F : Hp) : List (Str × V) → List (D × D) → Prop
  | nil : DtF K F [] []
  | cons {f : Str} {v : V} {vs : List (Str × V)} {d : D} {ds : List (D × D)} : Dt K F v d → DtF K F vs ds → DtF K F ((f, v) :: vs) ((.str f, d) :: ds)
inductive DtA (K : Fg) (F : Hp) : List V → List D → Prop
  | nil : DtA K F [] []
  | cons {v : V} {vs : List V} {d : D} {ds : List D} : Dt K F v d → DtA K F vs ds → DtA K F (v :: vs) (d :: ds)
inductive DtK (K : Fg) (F : Hp) : List (Key × V) → List (D × D) → Prop
  | nil : DtK K F [] []
  | cons {k : Key} {v : V} {vs : List (Key × V)} {d : D} {ds : List (D × D)} : Dt K F v d → DtK K F vs ds → DtK K F ((k, v) :: vs) ((kD k, d) :: ds)
inductive DtT (K : Fg) (F : Hp) : List (List Key × V) → List (D × D) → Prop
  | nil : DtT K F [] []
  | cons {k : List Key} {v : V} {vs : List (List Key × V)} {d : D} {ds : List (D × D)} : Dt K F v d → DtT K F vs ds → DtT K F ((k, v) :: vs) ((.tuple (k.map kD), d) :: ds)
end
theorem Sub.sqL {K : Fg} {F G : Hp} (s : Sub F G) {a : Addr} {xs : List V} (h : SqL K.fr F a xs) : SqL K.fr G a xs := by
  rcases h with h | h
  · rcases h with h | ⟨ob, h⟩
    · exact .inl (.inl (s _ _ h rfl))
    · exact .inl (.inr ⟨ob, s _ _ h rfl⟩)
  · exact .inr h
mutual
theorem Dt.mono {K : Fg} {F G : Hp} (s : Sub F G) : ∀ {v : V} {d : D}, Dt K F v d → Dt K G v d
  | _, _, .non => .non
  | _, _, .bl b => .bl b
  | _, _, .int b => .int b
  | _, _, .str b => .str b
  | _, _, .lst h t => .lst (s _ _ h rfl) (t.mono s)
  | _, _, .tup h t => .tup (s _ _ h rfl) (t.mono s)
  | _, _, .scr h => .scr (s.sqL h)
  | _, _, .dk h t => .dk (s _ _ h rfl) (t.mono s)
  | _, _, .dt h t => .dt (s _ _ h rfl) (t.mono s)
  | _, _, .exc m h => .exc m (s _ _ h rfl)
  | _, _, .exf m h g t => .exf m (s _ _ h rfl) (s _ _ g rfl) (t.mono s)
  | _, _, .fn m => .fn m
  | _, _, .ins m h t => .ins m (s _ _ h rfl) (t.mono s)
theorem DtF.mono {K : Fg} {F G : Hp} (s : Sub F G) : ∀ {v : List (Str × V)} {d : List (D × D)}, DtF K F v d → DtF K G v d
  | _, _, .nil => .nil
  | _, _, .cons h t => .cons (h.mono s) (t.mono s)
theorem DtA.mono {K : Fg} {F G : Hp} (s : Sub F G) : ∀ {v : List V} {d : List D}, DtA K F v d → DtA K G v d
  | _, _, .nil => .nil
  | _, _, .cons h t => .cons (h.mono s) (t.mono s)
theorem DtK.mono {K : Fg} {F G : Hp} (s : Sub F G) : ∀ {v : List (Key × V)} {d : List (D × D)}, DtK K F v d → DtK K G v d
  | _, _, .nil => .nil
  | _, _, .cons h t => .cons (h.mono s) (t.mono s)
theorem DtT.mono {K : Fg} {F G : Hp} (s : Sub F G) : ∀ {v : List (List Key × V)} {d : List (D × D)}, DtT K F v d → DtT K G v d
  | _, _, .nil => .nil
  | _, _, .cons h t => .cons (h.mono s) (t.mono s)
end
theorem DtA.length {K : Fg} {F : Hp} : ∀ {vs : List V} {ds : List D}, DtA K F vs ds → vs.length = ds.length
  | _, _, .nil => rfl
  | _, _, .cons _ t => congrArg Nat.succ t.length
theorem DtA.get {K : Fg} {F : Hp} : ∀ {vs : List V} {ds : List D} {i : Nat} {d : D}, DtA K F vs ds → ds[i]? = some d → ∃ v, vs[i]? = some v ∧ Dt K F v d
  | _, _, _, _, .nil, e => by simp at e
  | _, _, 0, _, .cons h _, e => by simp at e; subst e; exact ⟨_, rfl, h⟩
  | _, _, i + 1, d, .cons _ t, e => by
    obtain ⟨v, h1, h2⟩ := DtA.get (i := i) (d := d) t (by simpa using e)
    exact ⟨v, by simpa using h1, h2⟩
theorem DtA.append {K : Fg} {F : Hp} : ∀ {vs ws : List V} {ds es : List D}, DtA K F vs ds → DtA K F ws es → DtA K F (vs ++ ws) (ds ++ es)
  | _, _, _, _, .nil, s => s
  | _, _, _, _, .cons r t, s => .cons r (t.append s)
theorem DtA.take {K : Fg} {F : Hp} : ∀ {vs : List V} {ds : List D} (n : Nat), DtA K F vs ds → DtA K F (vs.take n) (ds.take n)
  | _, _, 0, _ => .nil
  | _, _, _ + 1, .nil => .nil
  | _, _, n + 1, .cons r t => .cons r (t.take n)
theorem DtA.drop {K : Fg} {F : Hp} : ∀ {vs : List V} {ds : List D} (n : Nat), DtA K F vs ds → DtA K F (vs.drop n) (ds.drop n)
  | _, _, 0, r => r
  | _, _, _ + 1, .nil => .nil
  | _, _, n + 1, .cons _ t => t.drop n
theorem DtA.set {K : Fg} {F : Hp} {v : V} {d : D} (r : Dt K F v d) : ∀ {vs : List V} {ds : List D} (i : Nat), DtA K F vs ds → DtA K F (vs.set i v) (ds.set i d)
  | _, _, _, .nil => .nil
  | _, _, 0, .cons _ t => .cons r t
  | _, _, i + 1, .cons q t => .cons q (t.set r i)
theorem DtA.reverse {K : Fg} {F : Hp} : ∀ {vs : List V} {ds : List D}, DtA K F vs ds → DtA K F vs.reverse ds.reverse
  | _, _, .nil => .nil
  | _, _, .cons r t => by
    rw [List.reverse_cons, List.reverse_cons]
    exact t.reverse.append (.cons r .nil)
def Own (K : Fg) (F H : Hp) (p : Addr) : D → Prop
  | .list ds => ∃ vs, H p = some (.lst vs) ∧ DtA K F vs ds
  | .dict es => (∃ kvs, H p = some (.dK kvs) ∧ DtK K F kvs es) ∨ (∃ kvs es', es = (.bool true, .none) :: es' ∧ H p = some (.dT kvs) ∧ DtT K F kvs es') ∨ ∃ c C dx fs es', es = tagD c :: es' ∧ K.mg c = some (.ref C) ∧ H p = some (.ins C dx fs) ∧ DtF K F fs es'
  | _ => False
theorem Own.some {K : Fg} {F H : Hp} {p : Addr} {d : D} (h : Own K F H p d) : ∃ o, H p = some o ∧ Mk o = false := by
  cases d with
  | list ds => obtain ⟨vs, e, _⟩ := h; exact ⟨_, e, rfl⟩
  | dict es => rcases h with ⟨_, e, _⟩ | ⟨_, _, _, e, _⟩ | ⟨_, _, _, _, _, _, _, e, _⟩ <;> exact ⟨_, e, rfl⟩
  | _ => exact h.elim
theorem Own.notup {K : Fg} {F H : Hp} {p : Addr} {d : D} {xs : List V} (h : Own K F H p d) (e : H p = .some (.tup xs)) : False := by
  cases d with
  | list ds => obtain ⟨vs, e', _⟩ := h; rw [e] at e'; cases e'
  | dict es => rcases h with ⟨_, e', _⟩ | ⟨_, _, _, e', _⟩ | ⟨_, _, _, _, _, _, _, e', _⟩ <;> (rw [e] at e'; cases e')
  | _ => exact h.elim
theorem Own.mono {K : Fg} {F G H H' : Hp} {p : Addr} {d : D} (h : Own K F H p d) (s : Sub F G) (k : ∀ o, H p = .some o → H' p = .some o) : Own K G H' p d := by
  cases d with
  | list ds => obtain ⟨vs, e, t⟩ := h; exact ⟨vs, k _ e, t.mono s⟩
  | dict es =>
    rcases h with ⟨vs, e, t⟩ | ⟨vs, es', e0, e, t⟩ | ⟨c, C, dx, fs, es', e0, m, e, t⟩
    · exact .inl ⟨vs, k _ e, t.mono s⟩
    · exact .inr (.inl ⟨vs, es', e0, k _ e, t.mono s⟩)
    · exact .inr (.inr ⟨c, C, dx, fs, es', e0, m, k _ e, t.mono s⟩)
  | _ => exact h.elim
/-- it is put to the others -/
theorem Own.froze {K : Fg} {F H : Hp} {p : Addr} {d : D} {o : HO} (h : Own K F H p d) (e : H p = .some o) (n : F p = .none) : Dt K (upd F p o) (.ref p) d := by
  have s : Sub F (upd F p o) := Sub.new n
  cases d with
  | list ds => obtain ⟨vs, e', t⟩ := h; rw [e] at e'; cases e'; exact .lst upd_same (t.mono s)
  | dict es =>
    rcases h with ⟨vs, e', t⟩ | ⟨vs, es', rfl, e', t⟩ | ⟨c, C, dx, fs, es', rfl, m, e', t⟩
    · rw [e] at e'; cases e'; exact .dk upd_same (t.mono s)
    · rw [e] at e'; cases e'; exact .dt upd_same (t.mono s)
    · rw [e] at e'; cases e'; exact .ins m upd_same (t.mono s)
  | _ => exact h.elim
/-- which parts are one's own: none, a list's (a dict's, a tuple's) root and its parts -/
inductive Sh where
  | fz | ls (s : Sh) | dk (s : Sh) | dt (s : Sh) | tp (r : Sh) | ob (c : Str) (r : Sh) | lp (r : Sh) | dr (r : Sh) | nl | cn (f : Str) (s r : Sh)
  deriving DecidableEq
abbrev Nodes := List (Addr × HO)
mutual
inductive Tr (K : Fg) (F : Hp) : Sh → V → D → Nodes → Prop
  | fz {v : V} {d : D} : Dt K F v d → Tr K F .fz v d []
  | ls {s : Sh} {p : Addr} {vs : List V} {ds : List D} {L : Nodes} : TrA K F s vs ds L → Tr K F (.ls s) (.ref p) (.list ds) ((p, .lst vs) :: L)
  | dk {s : Sh} {p : Addr} {kvs : List (Key × V)} {es : List (D × D)} {L : Nodes} : TrK K F s kvs es L → Tr K F (.dk s) (.ref p) (.dict es) ((p, .dK kvs) :: L)
  | dt {s : Sh} {p : Addr} {kvs : List (List Key × V)} {es : List (D × D)} {L : Nodes} : TrT K F s kvs es L → Tr K F (.dt s) (.ref p) (.dict ((.bool true, .none) :: es)) ((p, .dT kvs) :: L)
  | tp {r : Sh} {p : Addr} {vs : List V} {ds : List D} {L : Nodes} : TrP K F r vs ds L → Tr K F (.tp r) (.ref p) (.tuple ds) ((p, .tup vs) :: L)
  | ob {c : Str} {r : Sh} {p C dx : Addr} {fs : List (Str × V)} {es : List (D × D)} {L : Nodes} : K.mg c = some (.ref C) → TrO K F r fs es L → Tr K F (.ob c r) (.ref p) (.dict ((.bool false, .tuple [.none, .str c]) :: es)) ((p, .ins C dx fs) :: L)
  | lp {r : Sh} {p : Addr} {vs : List V} {ds : List D} {L : Nodes} : TrP K F r vs ds L → Tr K F (.lp r) (.ref p) (.list ds) ((p, .lst vs) :: L)
  | dr {r : Sh} {p : Addr} {kvs : List (Key × V)} {es : List (D × D)} {L : Nodes} : TrR K F r kvs es L → Tr K F (.dr r) (.ref p) (.dict es) ((p, .dK kvs) :: L)
inductive TrA (K : Fg) (F : Hp) : Sh → List V → List D → Nodes → Prop
  | nil {s : Sh} : TrA K F s [] [] []
  | cons {s : Sh} {v : V} {vs : List V} {d : D} {ds : List D} {L M : Nodes} : Tr K F s v d L → TrA K F s vs ds M → TrA K F s (v :: vs) (d :: ds) (L ++ M)
inductive TrK (K : Fg) (F : Hp) : Sh → List (Key × V) → List (D × D) → Nodes → Prop
  | nil {s : Sh} : TrK K F s [] [] []
  | cons {s : Sh} {k : Key} {v : V} {vs : List (Key × V)} {d : D} {ds : List (D × D)} {L M : Nodes} : Tr K F s v d L → TrK K F s vs ds M → TrK K F s ((k, v) :: vs) ((kD k, d) :: ds) (L ++ M)
inductive TrT (K : Fg) (F : Hp) : Sh → List (List Key × V) → List (D × D) → Nodes → Prop
  | nil {s : Sh} : TrT K F s [] [] []
  | cons {s : Sh} {k : List Key} {v : V} {vs : List (List Key × V)} {d : D} {ds : List (D × D)} {L M : Nodes} : Tr K F s v d L → TrT K F s vs ds M → TrT K F s ((k, v) :: vs) ((.tuple (k.map kD), d) :: ds) (L ++ M)
inductive TrP (K : Fg) (F : Hp) : Sh → List V → List D → Nodes → Prop
  | nil : TrP K F .nl [] [] []
  | cons {f : Str} {s r : Sh} {v : V} {vs : List V} {d : D} {ds : List D} {L M : Nodes} : Tr K F s v d L → TrP K F r vs ds M → TrP K F (.cn f s r) (v :: vs) (d :: ds) (L ++ M)
inductive TrO (K : Fg) (F : Hp) : Sh → List (Str × V) → List (D × D) → Nodes → Prop
  | nil : TrO K F .nl [] [] []
  | cons {f : Str} {s r : Sh} {v : V} {vs : List (Str × V)} {d : D} {ds : List (D × D)} {L M : Nodes} : Tr K F s v d L → TrO K F r vs ds M → TrO K F (.cn f s r) ((f, v) :: vs) ((.str f, d) :: ds) (L ++ M)
inductive TrR (K : Fg) (F : Hp) : Sh → List (Key × V) → List (D × D) → Nodes → Prop
  | nil : TrR K F .nl [] [] []
  | cons {f : Str} {s r : Sh} {v : V} {vs : List (Key × V)} {d : D} {ds : List (D × D)} {L M : Nodes} : Tr K F s v d L → TrR K F r vs ds M → TrR K F (.cn f s r) ((.inr f, v) :: vs) ((.str f, d) :: ds) (L ++ M)
end
mutual
theorem Tr.mono {K : Fg} {F G : Hp} (z : Sub F G) : ∀ {s : Sh} {v : V} {d : D} {L : Nodes}, Tr K F s v d L → Tr K G s v d L
  | _, _, _, _, .fz h => .fz (h.mono z)
  | _, _, _, _, .ls h => .ls (h.mono z)
  | _, _, _, _, .dk h => .dk (h.mono z)
  | _, _, _, _, .dt h => .dt (h.mono z)
  | _, _, _, _, .tp h => .tp (h.mono z)
  | _, _, _, _, .ob m h => .ob m (h.mono z)
  | _, _, _, _, .lp h => .lp (h.mono z)
  | _, _, _, _, .dr h => .dr (h.mono z)
theorem TrA.mono {K : Fg} {F G : Hp} (z : Sub F G) : ∀ {s : Sh} {v : List V} {d : List D} {L : Nodes}, TrA K F s v d L → TrA K G s v d L
  | _, _, _, _, .nil => .nil
  | _, _, _, _, .cons h t => .cons (h.mono z) (t.mono z)
theorem TrK.mono {K : Fg} {F G : Hp} (z : Sub F G) : ∀ {s : Sh} {v : List (Key × V)} {d : List (D × D)} {L : Nodes}, TrK K F s v d L → TrK K G s v d L
  | _, _, _, _, .nil => .nil
  | _, _, _, _, .cons h t => .cons (h.mono z) (t.mono z)
theorem TrT.mono {K : Fg} {F G : Hp} (z : Sub F G) : ∀ {s : Sh} {v : List (List Key × V)} {d : List (D × D)} {L : Nodes}, TrT K F s v d L → TrT K G s v d L
  | _, _, _, _, .nil => .nil
  | _, _, _, _, .cons h t => .cons (h.mono z) (t.mono z)
theorem TrP.mono {K : Fg} {F G : Hp} (z : Sub F G) : ∀ {s : Sh} {v : List V} {d : List D} {L : Nodes}, TrP K F s v d L → TrP K G s v d L
  | _, _, _, _, .nil => .nil
  | _, _, _, _, .cons h t => .cons (h.mono z) (t.mono z)
theorem TrO.mono {K : Fg} {F G : Hp} (z : Sub F G) : ∀ {s : Sh} {v : List (Str × V)} {d : List (D × D)} {L : Nodes}, TrO K F s v d L → TrO K G s v d L
  | _, _, _, _, .nil => .nil
  | _, _, _, _, .cons h t => .cons (h.mono z) (t.mono z)
theorem TrR.mono {K : Fg} {F G : Hp} (z : Sub F G) : ∀ {s : Sh} {v : List (Key × V)} {d : List (D × D)} {L : Nodes}, TrR K F s v d L → TrR K G s v d L
  | _, _, _, _, .nil => .nil
  | _, _, _, _, .cons h t => .cons (h.mono z) (t.mono z)
end
/-- no instance in it (what may be put to the others) -/
def Sh.flat : Sh → Bool
  | .fz => true
  | .ls s => s.flat
  | .dk s => s.flat
  | .dt s => s.flat
  | .tp r => r.flat
  | .ob _ r => r.flat
  | .lp r => r.flat
  | .dr r => r.flat
  | .nl => true
  | .cn _ s r => s.flat && r.flat
mutual
/-- the tree is put to the others -/
theorem Tr.froze {K : Fg} {F G : Hp} (z : Sub F G) : ∀ {s : Sh} {v : V} {d : D} {L : Nodes}, Tr K F s v d L → s.flat = true → (∀ q ∈ L, G q.1 = some q.2) → Dt K G v d
  | _, _, _, _, .fz h, _, _ => h.mono z
  | _, _, _, _, .ls h, f, g => .lst (g _ List.mem_cons_self) (h.froze z f fun q hq => g q (List.mem_cons_of_mem _ hq))
  | _, _, _, _, .dk h, f, g => .dk (g _ List.mem_cons_self) (h.froze z f fun q hq => g q (List.mem_cons_of_mem _ hq))
  | _, _, _, _, .dt h, f, g => .dt (g _ List.mem_cons_self) (h.froze z f fun q hq => g q (List.mem_cons_of_mem _ hq))
  | _, _, _, _, .tp h, f, g => .tup (g _ List.mem_cons_self) (h.froze z f fun q hq => g q (List.mem_cons_of_mem _ hq))
  | _, _, _, _, .ob m h, f, g => .ins m (g _ List.mem_cons_self) (h.froze z f fun q hq => g q (List.mem_cons_of_mem _ hq))
  | _, _, _, _, .lp h, f, g => .lst (g _ List.mem_cons_self) (h.froze z f fun q hq => g q (List.mem_cons_of_mem _ hq))
  | _, _, _, _, .dr h, f, g => .dk (g _ List.mem_cons_self) (h.froze z f fun q hq => g q (List.mem_cons_of_mem _ hq))
theorem TrA.froze {K : Fg} {F G : Hp} (z : Sub F G) : ∀ {s : Sh} {v : List V} {d : List D} {L : Nodes}, TrA K F s v d L → s.flat = true → (∀ q ∈ L, G q.1 = some q.2) → DtA K G v d
  | _, _, _, _, .nil, _, _ => .nil
  | _, _, _, _, .cons h t, f, g => .cons (h.froze z f fun q hq => g q (List.mem_append_left _ hq)) (t.froze z f fun q hq => g q (List.mem_append_right _ hq))
theorem TrK.froze {K : Fg} {F G : Hp} (z : Sub F G) : ∀ {s : Sh} {v : List (Key × V)} {d : List (D × D)} {L : Nodes}, TrK K F s v d L → s.flat = true → (∀ q ∈ L, G q.1 = some q.2) → DtK K G v d
  | _, _, _, _, .nil, _, _ => .nil
  | _, _, _, _, .cons h t, f, g => .cons (h.froze z f fun q hq => g q (List.mem_append_left _ hq)) (t.froze z f fun q hq => g q (List.mem_append_right _ hq))
theorem TrT.froze {K : Fg} {F G : Hp} (z : Sub F G) : ∀ {s : Sh} {v : List (List Key × V)} {d : List (D × D)} {L : Nodes}, TrT K F s v d L → s.flat = true → (∀ q ∈ L, G q.1 = some q.2) → DtT K G v d
  | _, _, _, _, .nil, _, _ => .nil
  | _, _, _, _, .cons h t, f, g => .cons (h.froze z f fun q hq => g q (List.mem_append_left _ hq)) (t.froze z f fun q hq => g q (List.mem_append_right _ hq))
theorem TrP.froze {K : Fg} {F G : Hp} (z : Sub F G) : ∀ {s : Sh} {v : List V} {d : List D} {L : Nodes}, TrP K F s v d L → s.flat = true → (∀ q ∈ L, G q.1 = some q.2) → DtA K G v d
  | _, _, _, _, .nil, _, _ => .nil
  | _, _, _, _, .cons h t, f, g => by
    have f := Bool.and_eq_true_iff.mp f
    exact .cons (h.froze z f.1 fun q hq => g q (List.mem_append_left _ hq)) (t.froze z f.2 fun q hq => g q (List.mem_append_right _ hq))
theorem TrO.froze {K : Fg} {F G : Hp} (z : Sub F G) : ∀ {s : Sh} {v : List (Str × V)} {d : List (D × D)} {L : Nodes}, TrO K F s v d L → s.flat = true → (∀ q ∈ L, G q.1 = some q.2) → DtF K G v d
  | _, _, _, _, .nil, _, _ => .nil
  | _, _, _, _, .cons h t, f, g => by
    have f := Bool.and_eq_true_iff.mp f
    exact .cons (h.froze z f.1 fun q hq => g q (List.mem_append_left _ hq)) (t.froze z f.2 fun q hq => g q (List.mem_append_right _ hq))
theorem TrR.froze {K : Fg} {F G : Hp} (z : Sub F G) : ∀ {s : Sh} {v : List (Key × V)} {d : List (D × D)} {L : Nodes}, TrR K F s v d L → s.flat = true → (∀ q ∈ L, G q.1 = some q.2) → DtK K G v d
  | _, _, _, _, .nil, _, _ => .nil
  | _, _, _, _, .cons (f := f0) h t, f, g => by
    have f := Bool.and_eq_true_iff.mp f
    exact .cons (k := .inr f0) (h.froze z f.1 fun q hq => g q (List.mem_append_left _ hq)) (t.froze z f.2 fun q hq => g q (List.mem_append_right _ hq))
end
/-- what stands at a node -/
def Nf (o : HO) : Prop := Mk o = false ∧ ∀ ob u, o ≠ .frz ob u
def AllNf (L : Nodes) : Prop := ∀ q ∈ L, Nf q.2
theorem AllNf.nil : AllNf [] := fun _ h => nomatch h
theorem AllNf.cons {p : Addr} {o : HO} {L : Nodes} (h : Nf o) (t : AllNf L) : AllNf ((p, o) :: L) := fun q hq => by
  rcases List.mem_cons.mp hq with rfl | hq
  · exact h
  · exact t q hq
theorem AllNf.app {L M : Nodes} (h : AllNf L) (t : AllNf M) : AllNf (L ++ M) := fun q hq => (List.mem_append.mp hq).elim (h q) (t q)
theorem Tr.nf {K : Fg} {F : Hp} {s : Sh} {v : V} {d : D} {L : Nodes} (h : Tr K F s v d L) : s.flat = true → AllNf L := by
  refine Tr.rec (motive_1 := fun s _ _ L _ => s.flat = true → AllNf L) (motive_2 := fun s _ _ L _ => s.flat = true → AllNf L) (motive_3 := fun s _ _ L _ => s.flat = true → AllNf L) (motive_4 := fun s _ _ L _ => s.flat = true → AllNf L)
    (motive_5 := fun s _ _ L _ => s.flat = true → AllNf L) (motive_6 := fun s _ _ L _ => s.flat = true → AllNf L) (motive_7 := fun s _ _ L _ => s.flat = true → AllNf L) ?_ ?_ ?_ ?_ ?_ ?_ ?_ ?_ ?_ ?_ ?_ ?_ ?_ ?_ ?_ ?_ ?_ ?_ ?_ ?_ h
  · exact fun _ _ => AllNf.nil
  · exact fun _ ih f => AllNf.cons ⟨rfl, fun _ _ h => by cases h⟩ (ih f)
  · exact fun _ ih f => AllNf.cons ⟨rfl, fun _ _ h => by cases h⟩ (ih f)
  · exact fun _ ih f => AllNf.cons ⟨rfl, fun _ _ h => by cases h⟩ (ih f)
  · exact fun _ ih f => AllNf.cons ⟨rfl, fun _ _ h => by cases h⟩ (ih f)
  · exact fun _ _ ih f => AllNf.cons ⟨rfl, fun _ _ h => by cases h⟩ (ih f)
  · exact fun _ ih f => AllNf.cons ⟨rfl, fun _ _ h => by cases h⟩ (ih f)
  · exact fun _ ih f => AllNf.cons ⟨rfl, fun _ _ h => by cases h⟩ (ih f)
  · exact fun _ => AllNf.nil
  · exact fun _ _ ih1 ih2 f => (ih1 f).app (ih2 f)
  · exact fun _ => AllNf.nil
  · exact fun _ _ ih1 ih2 f => (ih1 f).app (ih2 f)
  · exact fun _ => AllNf.nil
  · exact fun _ _ ih1 ih2 f => (ih1 f).app (ih2 f)
  · exact fun _ => AllNf.nil
  · exact fun _ _ ih1 ih2 f => (ih1 (Bool.and_eq_true_iff.mp f).1).app (ih2 (Bool.and_eq_true_iff.mp f).2)
  · exact fun _ => AllNf.nil
  · exact fun _ _ ih1 ih2 f => (ih1 (Bool.and_eq_true_iff.mp f).1).app (ih2 (Bool.and_eq_true_iff.mp f).2)
  · exact fun _ => AllNf.nil
  · exact fun _ _ ih1 ih2 f => (ih1 (Bool.and_eq_true_iff.mp f).1).app (ih2 (Bool.and_eq_true_iff.mp f).2)
def AllNz (L : Nodes) : Prop := ∀ q ∈ L, ∀ ob u, q.2 ≠ .frz ob u
theorem AllNz.nil : AllNz [] := fun _ h => nomatch h
theorem AllNz.cons {p : Addr} {o : HO} {L : Nodes} (h : ∀ ob u, o ≠ .frz ob u) (t : AllNz L) : AllNz ((p, o) :: L) := fun q hq => by
  rcases List.mem_cons.mp hq with rfl | hq
  · exact h
  · exact t q hq
theorem AllNz.app {L M : Nodes} (h : AllNz L) (t : AllNz M) : AllNz (L ++ M) := fun q hq => (List.mem_append.mp hq).elim (h q) (t q)
theorem Tr.nz {K : Fg} {F : Hp} {s : Sh} {v : V} {d : D} {L : Nodes} (h : Tr K F s v d L) : AllNz L := by
  refine Tr.rec (motive_1 := fun s _ _ L _ => AllNz L) (motive_2 := fun s _ _ L _ => AllNz L) (motive_3 := fun s _ _ L _ => AllNz L) (motive_4 := fun s _ _ L _ => AllNz L)
    (motive_5 := fun s _ _ L _ => AllNz L) (motive_6 := fun _ _ _ L _ => AllNz L) (motive_7 := fun _ _ _ L _ => AllNz L) ?_ ?_ ?_ ?_ ?_ ?_ ?_ ?_ ?_ ?_ ?_ ?_ ?_ ?_ ?_ ?_ ?_ ?_ ?_ ?_ h
  · exact fun _ => AllNz.nil
  · exact fun _ ih => AllNz.cons (fun _ _ h => by cases h) ih
  · exact fun _ ih => AllNz.cons (fun _ _ h => by cases h) ih
  · exact fun _ ih => AllNz.cons (fun _ _ h => by cases h) ih
  · exact fun _ ih => AllNz.cons (fun _ _ h => by cases h) ih
  · exact fun _ _ ih => AllNz.cons (fun _ _ h => by cases h) ih
  · exact fun _ ih => AllNz.cons (fun _ _ h => by cases h) ih
  · exact fun _ ih => AllNz.cons (fun _ _ h => by cases h) ih
  · exact AllNz.nil
  · exact fun _ _ ih1 ih2 => ih1.app ih2
  · exact AllNz.nil
  · exact fun _ _ ih1 ih2 => ih1.app ih2
  · exact AllNz.nil
  · exact fun _ _ ih1 ih2 => ih1.app ih2
  · exact AllNz.nil
  · exact fun _ _ ih1 ih2 => ih1.app ih2
  · exact AllNz.nil
  · exact fun _ _ ih1 ih2 => ih1.app ih2
  · exact AllNz.nil
  · exact fun _ _ ih1 ih2 => ih1.app ih2
/-- what the tables' making leaves alone -/
def TC : HO → Prop
  | .tbl _ => True
  | .ext f => ∃ c q, HO.ext f = LamX.CodeO c q
  | _ => False
def AllNc (L : Nodes) : Prop := ∀ q ∈ L, ¬ TC q.2
theorem AllNc.nil : AllNc [] := fun _ h => nomatch h
theorem AllNc.cons {p : Addr} {o : HO} {L : Nodes} (h : ¬ TC o) (t : AllNc L) : AllNc ((p, o) :: L) := fun q hq => by
  rcases List.mem_cons.mp hq with rfl | hq
  · exact h
  · exact t q hq
theorem AllNc.app {L M : Nodes} (h : AllNc L) (t : AllNc M) : AllNc (L ++ M) := fun q hq => (List.mem_append.mp hq).elim (h q) (t q)
theorem Tr.ntc {K : Fg} {F : Hp} {s : Sh} {v : V} {d : D} {L : Nodes} (h : Tr K F s v d L) : AllNc L := by
  refine Tr.rec (motive_1 := fun s _ _ L _ => AllNc L) (motive_2 := fun s _ _ L _ => AllNc L) (motive_3 := fun s _ _ L _ => AllNc L) (motive_4 := fun s _ _ L _ => AllNc L)
    (motive_5 := fun s _ _ L _ => AllNc L) (motive_6 := fun _ _ _ L _ => AllNc L) (motive_7 := fun _ _ _ L _ => AllNc L) ?_ ?_ ?_ ?_ ?_ ?_ ?_ ?_ ?_ ?_ ?_ ?_ ?_ ?_ ?_ ?_ ?_ ?_ ?_ ?_ h
  · exact fun _ => AllNc.nil
  · exact fun _ ih => AllNc.cons (fun z => z) ih
  · exact fun _ ih => AllNc.cons (fun z => z) ih
  · exact fun _ ih => AllNc.cons (fun z => z) ih
  · exact fun _ ih => AllNc.cons (fun z => z) ih
  · exact fun _ _ ih => AllNc.cons (fun z => z) ih
  · exact fun _ ih => AllNc.cons (fun z => z) ih
  · exact fun _ ih => AllNc.cons (fun z => z) ih
  · exact AllNc.nil
  · exact fun _ _ ih1 ih2 => ih1.app ih2
  · exact AllNc.nil
  · exact fun _ _ ih1 ih2 => ih1.app ih2
  · exact AllNc.nil
  · exact fun _ _ ih1 ih2 => ih1.app ih2
  · exact AllNc.nil
  · exact fun _ _ ih1 ih2 => ih1.app ih2
  · exact AllNc.nil
  · exact fun _ _ ih1 ih2 => ih1.app ih2
  · exact AllNc.nil
  · exact fun _ _ ih1 ih2 => ih1.app ih2
def Ndp (L : Nodes) : Prop := (L.map (·.1)).Nodup
inductive Sv where
  | un | fz (d : D) | ow (d : D) | pw (d : D) | tr (s : Sh) (d : D) | tw (s : Sh) (d : D)
abbrev En := List Sv
/-- what was so at the entry; the objects that the caller gave to be changed, by slot; what is locked; what is held meanwhile -/
structure Bs where
  F0 : Hp
  H0 : Hp
  M : List (Nat × Addr)
  L : List (Addr × Obj × HO)
  X : List (Addr × HO)
  G : Addr → Prop
  Z : Addr → Prop
def noZ : Addr → Prop := fun _ => False
/-- data of one object: a list, a tuple, an instance -/
def refD : D → Bool
  | .list _ => true
  | .tuple _ => true
  | .dict ((.bool false, .tuple [.none, .str _]) :: _) => true
  | _ => false
/-- an object's tree, or an object lent -/
def ObSh (s : Sh) (y : D) : Prop := (∃ c r, s = .ob c r) ∨ (s = .fz ∧ refD y = true)
/-- a slot that the caller gave to be changed -/
def IsPw (env : En) (i : Nat) (d : D) : Prop := env[i]? = some (.pw d) ∨ ∃ s y, ∃ _ : ObSh s y, env[i]? = some (.tw s y)
theorem Dt.refAt {K : Fg} {F : Hp} {v : V} {y : D} (h : Dt K F v y) (r : refD y = true) : ∃ p o, v = .ref p ∧ F p = some o ∧ Mk o = false ∧ ¬ IsDct o := by
  cases h with
  | lst e t => exact ⟨_, _, rfl, e, rfl, fun z => z⟩
  | tup e t => exact ⟨_, _, rfl, e, rfl, fun z => z⟩
  | ins m e t => exact ⟨_, _, rfl, e, rfl, fun z => z⟩
  | dk e t =>
    exfalso
    cases t with
    | nil => cases r
    | @cons k => cases k <;> cases r
  | _ => cases r
def IsOw (env : En) (i : Nat) (d : D) : Prop := env[i]? = some (.ow d) ∨ env[i]? = some (.pw d)
/-- tuples of keys alone are all among the others -/
def KT (F H : Hp) : Prop := ∀ a (ks : List Key), H a = some (.tup (ks.map kV)) → F a = some (.tup (ks.map kV))
def IsTr (env : En) (i : Nat) (s : Sh) (d : D) : Prop := env[i]? = some (.tr s d) ∨ env[i]? = some (.tw s d)
theorem tabs_step {T : TbT} {H H' : Hp} (t : LamX.Tabs T H) (k : ∀ b o, H b = some o → TC o → H' b = some o) : LamX.Tabs T H' := fun p hp => by
  obtain ⟨ps, h1, h2, h3⟩ := t p hp
  refine ⟨ps, k _ _ h1 trivial, h2, fun pos cv hc => ?_⟩
  obtain ⟨c, e1, e2⟩ := h3 pos cv hc
  exact ⟨c, e1, k _ _ e2 ⟨_, _, rfl⟩⟩
theorem tabs_new {T : TbT} {H : Hp} {p : Addr} {o : HO} (t : LamX.Tabs T H) (n : H p = none) : LamX.Tabs T (upd H p o) := tabs_step t fun b u h _ => by
  rw [upd_ne (ne_of_none h n)]; exact h
theorem tabs_chg {T : TbT} {H : Hp} {p : Addr} {o o' : HO} (t : LamX.Tabs T H) (h : H p = some o') (n : ¬ TC o') : LamX.Tabs T (upd H p o) := tabs_step t fun b u h' c => by
  have ne : b ≠ p := fun z => by
    subst z
    rw [h] at h'; cases h'
    exact n c
  rw [upd_ne ne]; exact h'
/-- an address of a table -/
def Kg.tb (K : Fg) (p : Addr) : Prop := ∃ u, (p, u) ∈ K.T
theorem tabs_at {K : Fg} {H : Hp} {p : Addr} (t : LamX.Tabs K.T H) (h : K.tb p) : ∃ ps, H p = some (.tbl ps) := by
  obtain ⟨u, h⟩ := h
  obtain ⟨ps, e, _⟩ := t _ h
  exact ⟨ps, e⟩
/-- the tables, now and at the entry -/
structure TbB (K : Fg) (B : Bs) (H : Hp) : Prop where
  now : LamX.Tabs K.T H
  at0 : LamX.Tabs K.T B.H0
  nf : ∀ q, K.tb q → B.F0 q = none ∧ B.G q
structure Sl (K : Fg) (B : Bs) (F H : Hp) (σ : L2.St) (env : En) : Prop where
  fh : Lk F H
  len : env.length = σ.length
  fz : ∀ (i : Nat) (d : D), env[i]? = some (Sv.fz d) → ∃ v, σ[i]? = some (some v) ∧ Dt K F v d
  own : ∀ (i : Nat) (d : D), IsOw env i d → ∃ p, σ[i]? = some (some (.ref p)) ∧ F p = none ∧ Own K F H p d ∧ (B.H0 p = none ∨ ∃ j, (j, p) ∈ B.M)
  ap : ∀ (i j : Nat) (d e : D) (p : Addr), IsOw env i d → IsOw env j e → σ[i]? = some (some (.ref p)) → σ[j]? = some (some (.ref p)) → i = j
  pm : ∀ q ∈ B.M, (∃ d : D, IsPw env q.1 d) ∧ σ[q.1]? = some (some (.ref q.2))
  f0 : Sub B.F0 F
  nw : ∀ p, B.F0 p = none → F p ≠ none → B.H0 p = none
  kp : ∀ p o, B.H0 p = some o → (∀ j, (j, p) ∉ B.M) → (∀ u, (p, u) ∉ B.L) → ¬ B.G p → H p = some o
  lc : ∀ q ∈ B.L, H q.1 = some (.frz q.2.1 q.2.2) ∧ F q.1 = some q.2.2
  hx : ∀ q ∈ B.X, H q.1 = some q.2 ∧ F q.1 = none ∧ B.H0 q.1 = none ∧ ∀ (i : Nat) (d : D), IsOw env i d → σ[i]? ≠ some (some (.ref q.1))
  lk : ∀ a ob u, F a = some u → H a = some (.frz ob u) → (a, ob, u) ∈ B.L ∨ (B.H0 a = some (.frz ob u) ∧ (∀ j, (j, a) ∉ B.M) ∧ (∀ w, (a, w) ∉ B.L) ∧ ¬ B.G a)
  tr : ∀ (i : Nat) (s : Sh) (d : D), IsTr env i s d → ∃ v L, σ[i]? = some (some v) ∧ Tr K F s v d L ∧ Ndp L ∧ ∀ q ∈ L, H q.1 = some q.2 ∧ F q.1 = some (.own i)
  mr : ∀ a m, F a = some (.own m) → B.H0 a = none ∨ B.G a
  gv : ∀ a, B.G a → H a ≠ none ∧ B.H0 a ≠ none ∧ (B.F0 a ≠ none ∨ K.tb a) ∧ (F a = none ∨ (∃ j p, (j, p) ∈ B.M ∧ F a = some (.own j)) ∨ (B.Z a ∧ ∀ m, F a ≠ some (.own m)))
  kt : KT F H
  tb : TbB K B H
theorem frz_ne {o : HO} {ob : Obj} : o ≠ .frz ob o := fun h => by
  have := congrArg sizeOf h
  simp only [HO.frz.sizeOf_spec] at this
  omega
section
variable {K : Fg} {B : Bs} {F H : Hp} {σ : L2.St} {env : En}
theorem Sl.tbF (S : Sl K B F H σ env) {a : Addr} (h : K.tb a) : F a = none := by
  cases e : F a with
  | none => rfl
  | some u =>
    have n0 := S.nw a (S.tb.nf a h).1 (by rw [e]; exact fun z => nomatch z)
    obtain ⟨ps, q⟩ := tabs_at S.tb.at0 h
    rw [n0] at q; cases q
theorem Sl.ntF (S : Sl K B F H σ env) {a : Addr} {u : HO} (h : F a = some u) : ¬ K.tb a := fun z => by
  rw [S.tbF z] at h; cases h
theorem Sl.nt0 (S : Sl K B F H σ env) {a : Addr} (h : B.H0 a = none) : ¬ K.tb a := fun z => by
  obtain ⟨ps, q⟩ := tabs_at S.tb.at0 z
  rw [h] at q; cases q
theorem Sl.ntO (S : Sl K B F H σ env) {a : Addr} {o : HO} (h : H a = some o) (n : ¬ TC o) : ¬ K.tb a := fun z => by
  obtain ⟨ps, q⟩ := tabs_at S.tb.now z
  rw [h] at q; cases q
  exact n trivial
theorem Own.ntc {K : Fg} {F H : Hp} {p : Addr} {d : D} {o : HO} (h : Own K F H p d) (e : H p = Option.some o) : ¬ TC o := by
  cases d with
  | list ds => obtain ⟨vs, e', _⟩ := h; rw [e] at e'; cases e'; exact fun z => z
  | dict es => rcases h with ⟨_, e', _⟩ | ⟨_, _, _, e', _⟩ | ⟨_, _, _, _, _, _, _, e', _⟩ <;> (rw [e] at e'; cases e'; exact fun z => z)
  | _ => exact h.elim
theorem Sl.gm (S : Sl K B F H σ env) {F' : Hp} (h : ∀ a, B.H0 a ≠ none → F' a = F a) {a : Addr} (g : B.G a) : B.H0 a ≠ none ∧ (B.F0 a ≠ none ∨ K.tb a) ∧ (F' a = none ∨ (∃ j p, (j, p) ∈ B.M ∧ F' a = some (.own j)) ∨ (B.Z a ∧ ∀ m, F' a ≠ some (.own m))) := by
  obtain ⟨_, h0, h1, h2⟩ := S.gv a g
  rw [h a h0]
  exact ⟨h0, h1, h2⟩
/-- a name's own tree is none that the caller gave -/
theorem Sl.trG (S : Sl K B F H σ env) {i : Nat} {s : Sh} {d : D} (e : env[i]? = some (.tr s d)) {a : Addr} (h : F a = some (.own i)) : ¬ B.G a := fun g => by
  rcases (S.gv a g).2.2.2 with z | ⟨j, p, hj, z⟩ | ⟨_, z⟩
  · rw [h] at z; cases z
  · rw [h] at z; cases z
    rcases (S.pm _ hj).1 with ⟨d', w | ⟨_, _, _, w⟩⟩ <;> (rw [e] at w; cases w)
  · exact z _ h
/-- an own object's root is none that the caller gave -/
theorem Sl.pmOw (S : Sl K B F H σ env) {i j : Nat} {d : D} {p : Addr} (e : env[i]? = some (.ow d)) (h1 : σ[i]? = some (some (.ref p))) (hj : (j, p) ∈ B.M) : False := by
  obtain ⟨⟨d', hd'⟩, hs⟩ := S.pm (j, p) hj
  rcases hd' with hd' | ⟨sh, y, os, hd'⟩
  · have := S.ap i j d d' p (.inl e) (.inr hd') h1 hs
    subst this
    rw [e] at hd'; cases hd'
  · obtain ⟨v, L, e1, e2, _, e4⟩ := S.tr j _ y (.inr hd')
    rw [hs] at e1; cases e1
    obtain ⟨q, g1, g2, _⟩ := S.own i d (.inl e)
    rw [h1] at g1; cases g1
    rcases os with ⟨c, r, rfl⟩ | ⟨rfl, hy⟩
    · cases e2 with
      | ob m t =>
        have n := (e4 _ List.mem_cons_self).2
        rw [g2] at n; cases n
    · cases e2 with
      | fz h =>
        obtain ⟨p', o', z, w, _⟩ := h.refAt hy
        cases z
        rw [g2] at w; cases w
/-- what is new now is new since the entry -/
theorem Sl.fresh (S : Sl K B F H σ env) {p : Addr} (n : H p = none) : B.H0 p = none := by
  cases e : B.H0 p with
  | none => rfl
  | some u =>
    exfalso
    by_cases hm : ∃ j, (j, p) ∈ B.M
    · obtain ⟨j, hj⟩ := hm
      obtain ⟨⟨d, hd⟩, hs⟩ := S.pm (j, p) hj
      rcases hd with hd | ⟨sh, y, os, hd⟩
      · obtain ⟨q', e1, _, e3, _⟩ := S.own j d (.inr hd)
        rw [hs] at e1; cases e1
        obtain ⟨w, hw, _⟩ := e3.some
        rw [n] at hw; cases hw
      · obtain ⟨v, L, e1, e2, _, e4⟩ := S.tr j _ y (.inr hd)
        rw [hs] at e1; cases e1
        rcases os with ⟨c, r, rfl⟩ | ⟨rfl, hy⟩
        · cases e2 with
          | ob m t =>
            have := (e4 _ List.mem_cons_self).1
            rw [n] at this; cases this
        · cases e2 with
          | fz h =>
            obtain ⟨p', o', z, w, _⟩ := h.refAt hy
            cases z
            rw [S.fh.none n] at w; cases w
    · by_cases hl : ∃ u', (p, u') ∈ B.L
      · obtain ⟨u', hl⟩ := hl
        have h9 : H p = _ := (S.lc _ hl).1
        rw [n] at h9; cases h9
      · by_cases hg : B.G p
        · exact (S.gv p hg).1 n
        · have := S.kp p u e (fun j hj => hm ⟨j, hj⟩) (fun u' hu => hl ⟨u', hu⟩) hg
          rw [n] at this; cases this
theorem Sl.neOw (S : Sl K B F H σ env) {p : Addr} (n : H p = none) {i : Nat} {d : D} (o : IsOw env i d) : σ[i]? ≠ some (some (.ref p)) := fun e => by
  obtain ⟨q, e1, _, e3, _⟩ := S.own i d o
  rw [e] at e1; cases e1
  obtain ⟨w, hw, _⟩ := e3.some
  rw [n] at hw; cases hw
/-- a new object is laid -/
theorem Sl.laid (S : Sl K B F H σ env) {p : Addr} {o : HO} (n : H p = none) (no : ∀ ks : List Key, o ≠ .tup (ks.map kV) := by intro ks h; cases h) : Sl K B F (upd H p o) σ env := by
  refine ⟨fun a u e => ?_, S.len, S.fz, fun i d e => ?_, S.ap, S.pm, S.f0, S.nw, fun q u h1 h2 h3 h9 => ?_, fun q hq => ?_, fun q hq => ?_, fun a ob u e h => S.lk a ob u e (by
    have ne : a ≠ p := by
      rintro rfl
      rw [S.fh.none n] at e; cases e
    rw [upd_ne ne] at h; exact h), fun i s d e => ?_, S.mr, fun a g => ⟨by
      have := (S.gv a g).1
      by_cases z : a = p
      · subst z; exact absurd n this
      · rw [upd_ne z]; exact this, (S.gv a g).2⟩, fun a ks h => by
      by_cases z : a = p
      · subst z; rw [upd_same] at h; exact absurd (Option.some.inj h) (no ks)
      · rw [upd_ne z] at h; exact S.kt a ks h, ⟨tabs_new S.tb.now n, S.tb.at0, S.tb.nf⟩⟩
  rotate_right
  · obtain ⟨v, L, h1, h2, h3, h4⟩ := S.tr i s d e
    exact ⟨v, L, h1, h2, h3, fun q hq => ⟨by rw [upd_ne (ne_of_none (h4 q hq).1 n)]; exact (h4 q hq).1, (h4 q hq).2⟩⟩
  · have ne : a ≠ p := by
      rintro rfl
      rw [S.fh.none n] at e; cases e
    rw [upd_ne ne]; exact S.fh a u e
  · obtain ⟨q, h1, h2, h3, h4⟩ := S.own i d e
    have ne : q ≠ p := by
      rintro rfl
      exact S.neOw n e h1
    exact ⟨q, h1, h2, h3.mono (Sub.refl _) fun u hu => by rw [upd_ne ne]; exact hu, h4⟩
  · have := S.kp q u h1 h2 h3 h9
    rw [upd_ne (ne_of_none this n)]
    exact this
  · obtain ⟨g1, g2⟩ := S.lc q hq
    exact ⟨by rw [upd_ne (ne_of_none g1 n)]; exact g1, g2⟩
  · obtain ⟨g1, g2⟩ := S.hx q hq
    exact ⟨by rw [upd_ne (ne_of_none g1 n)]; exact g1, g2⟩
/-- an object of nobody is put to the others -/
theorem Sl.froze (S : Sl K B F H σ env) {p : Addr} {o : HO} (h : H p = some o) (n : F p = none) (n0 : B.H0 p = none) (no : ∀ i d, IsOw env i d → σ[i]? ≠ some (some (.ref p))) (nx : ∀ q ∈ B.X, q.1 ≠ p) (mo : Mk o = false) : Sl K B (upd F p o) H σ env := by
  have s : Sub F (upd F p o) := Sub.new n
  refine ⟨fun a u e => ?_, S.len, fun i d e => ?_, fun i d e => ?_, S.ap, S.pm, S.f0.trans s, fun q h1 h2 => ?_, S.kp, fun q hq => ⟨(S.lc q hq).1, by
      have ne : q.1 ≠ p := fun z => by have := (S.lc q hq).2; rw [z, n] at this; cases this
      rw [upd_ne ne]; exact (S.lc q hq).2⟩, fun q hq => ?_, fun a ob u e h' => by
    by_cases ha : a = p
    · subst ha; rw [upd_same] at e; cases e; rw [h] at h'; exact absurd (Option.some.inj h') frz_ne
    · rw [upd_ne ha] at e; exact S.lk a ob u e h', fun i s' d e => by
      obtain ⟨v, L, h1, h2, h3, h4⟩ := S.tr i s' d e
      refine ⟨v, L, h1, h2.mono s, h3, fun q hq => ⟨(h4 q hq).1, ?_⟩⟩
      rw [upd_ne (ne_of_none (h4 q hq).2 n)]; exact (h4 q hq).2, fun a m e => by
      by_cases ha : a = p
      · subst ha; rw [upd_same] at e; cases e; cases mo
      · rw [upd_ne ha] at e; exact S.mr a m e, fun a g => ⟨(S.gv a g).1, S.gm (fun b hb => upd_ne (fun z => hb (by rw [z]; exact n0))) g⟩, fun a ks h' => by
      by_cases ha : a = p
      · subst ha; rw [upd_same, ← h']; exact h.symm
      · rw [upd_ne ha]; exact S.kt a ks h', S.tb⟩
  · by_cases ha : a = p
    · subst ha; rw [upd_same] at e; cases e; exact .inl h
    · rw [upd_ne ha] at e; exact S.fh a u e
  · obtain ⟨v, h1, h2⟩ := S.fz i d e
    exact ⟨v, h1, h2.mono s⟩
  · obtain ⟨q, h1, h2, h3, h4⟩ := S.own i d e
    have ne : q ≠ p := by
      rintro rfl
      exact no i d e h1
    exact ⟨q, h1, by rw [upd_ne ne]; exact h2, h3.mono s fun u hu => hu, h4⟩
  · by_cases ha : q = p
    · subst ha; exact n0
    · rw [upd_ne ha] at h2; exact S.nw q h1 h2
  · obtain ⟨g1, g2, g3⟩ := S.hx q hq
    exact ⟨g1, by rw [upd_ne (nx q hq)]; exact g2, g3⟩
theorem Sl.neX (S : Sl K B F H σ env) {p : Addr} (n : H p = none) : ∀ q ∈ B.X, q.1 ≠ p := fun q hq => ne_of_none (S.hx q hq).1 n
/-- a new object, put to the others at once -/
theorem Sl.new (S : Sl K B F H σ env) {p : Addr} {o : HO} (n : H p = none) (mo : Mk o = false := by rfl) : Sl K B (upd F p o) (upd H p o) σ env := by
  have nF := S.fh.none n
  have s : Sub F (upd F p o) := Sub.new nF
  refine ⟨fun a u e => ?_, S.len, fun i d e => ?_, fun i d e => ?_, S.ap, S.pm, S.f0.trans s, fun q h1 h2 => ?_, fun q u h1 h2 h3 h9 => ?_, fun q hq => ?_, fun q hq => ?_, fun a ob u e h => ?_, fun i s' d e => ?_, fun a m e => ?_, fun a g => ⟨?_, S.gm (fun b hb => upd_ne (fun z => hb (by rw [z]; exact S.fresh n))) g⟩, fun a ks h => ?_, ⟨tabs_new S.tb.now n, S.tb.at0, S.tb.nf⟩⟩
  · by_cases ha : a = p
    · subst ha; rw [upd_same] at e; cases e; exact .inl upd_same
    · rw [upd_ne ha] at e
      rw [upd_ne ha]; exact S.fh a u e
  · obtain ⟨v, h1, h2⟩ := S.fz i d e
    exact ⟨v, h1, h2.mono s⟩
  · obtain ⟨q, h1, h2, h3, h4⟩ := S.own i d e
    have ne : q ≠ p := by
      rintro rfl
      exact S.neOw n e h1
    exact ⟨q, h1, by rw [upd_ne ne]; exact h2, h3.mono s fun u hu => by rw [upd_ne ne]; exact hu, h4⟩
  · by_cases ha : q = p
    · subst ha; exact S.fresh n
    · rw [upd_ne ha] at h2; exact S.nw q h1 h2
  · have := S.kp q u h1 h2 h3 h9
    rw [upd_ne (ne_of_none this n)]
    exact this
  · obtain ⟨g1, g2⟩ := S.lc q hq
    exact ⟨by rw [upd_ne (ne_of_none g1 n)]; exact g1, by rw [upd_ne (ne_of_none g1 n)]; exact g2⟩
  · obtain ⟨g1, g2, g3⟩ := S.hx q hq
    exact ⟨by rw [upd_ne (ne_of_none g1 n)]; exact g1, by rw [upd_ne (ne_of_none g1 n)]; exact g2, g3⟩
  · by_cases ha : a = p
    · subst ha; rw [upd_same] at e h; cases e; exact absurd (Option.some.inj h) frz_ne
    · rw [upd_ne ha] at e h; exact S.lk a ob u e h
  · obtain ⟨v, L, h1, h2, h3, h4⟩ := S.tr i s' d e
    refine ⟨v, L, h1, h2.mono s, h3, fun q hq => ?_⟩
    have ne := ne_of_none (h4 q hq).1 n
    exact ⟨by rw [upd_ne ne]; exact (h4 q hq).1, by rw [upd_ne ne]; exact (h4 q hq).2⟩
  · by_cases ha : a = p
    · subst ha; rw [upd_same] at e; cases e; cases mo
    · rw [upd_ne ha] at e; exact S.mr a m e
  · by_cases ha : a = p
    · subst ha; rw [upd_same]; exact fun z => nomatch z
    · rw [upd_ne ha]; exact (S.gv a g).1
  · by_cases ha : a = p
    · subst ha; rw [upd_same] at h ⊢; exact h
    · rw [upd_ne ha] at h ⊢; exact S.kt a ks h
theorem Sl.subNew (S : Sl K B F H σ env) {p : Addr} {o : HO} (n : H p = none) : Sub F (upd F p o) := Sub.new (S.fh.none n)
/-- a name's own object is put to the others -/
theorem Sl.frozeAt (S : Sl K B F H σ env) {i : Nat} {d : D} (e : env[i]? = some (.ow d)) : ∃ p o, σ[i]? = some (some (.ref p)) ∧ Sub F (upd F p o) ∧ Dt K (upd F p o) (.ref p) d ∧ Sl K B (upd F p o) H σ (env.set i (.fz d)) := by
  obtain ⟨p, h1, h2, h3, h4⟩ := S.own i d (.inl e)
  obtain ⟨o, ho, hb⟩ := h3.some
  have s : Sub F (upd F p o) := Sub.new h2
  have hd := h3.froze ho h2
  have hi : i < env.length := (List.getElem?_eq_some_iff.mp e).1
  have other : ∀ {j : Nat} {x : Sv}, (env.set i (.fz d))[j]? = some x → (j = i ∧ x = .fz d) ∨ (j ≠ i ∧ env[j]? = some x) := fun {j x} q => by
    by_cases hj : j = i
    · subst hj
      rw [List.getElem?_set_self hi] at q
      cases q
      exact .inl ⟨rfl, rfl⟩
    · rw [List.getElem?_set_ne (Ne.symm hj)] at q
      exact .inr ⟨hj, q⟩
  have ow' : ∀ {j : Nat} {x : D}, IsOw (env.set i (.fz d)) j x → j ≠ i ∧ IsOw env j x := fun {j x} q => by
    rcases q with q | q
    · rcases other q with ⟨_, z⟩ | ⟨a, b⟩
      · cases z
      · exact ⟨a, .inl b⟩
    · rcases other q with ⟨_, z⟩ | ⟨a, b⟩
      · cases z
      · exact ⟨a, .inr b⟩
  have n0 : B.H0 p = none := by
    rcases h4 with h4 | ⟨j, hj⟩
    · exact h4
    · exact (S.pmOw e h1 hj).elim
  refine ⟨p, o, h1, s, hd, fun a u q => ?_, by simpa using S.len, fun j x q => ?_, fun j x q => ?_, fun j k x y q a b => S.ap j k x y q (ow' a).2 (ow' b).2, fun q hq => ?_, S.f0.trans s, fun q a b => ?_, S.kp, fun q hq => ⟨(S.lc q hq).1, by
      have ne : q.1 ≠ p := fun z => by have := (S.lc q hq).2; rw [z, h2] at this; cases this
      rw [upd_ne ne]; exact (S.lc q hq).2⟩, fun q hq => ?_, fun a ob u q h' => by
    by_cases ha : a = p
    · subst ha; rw [upd_same] at q; cases q; rw [ho] at h'; exact absurd (Option.some.inj h') frz_ne
    · rw [upd_ne ha] at q; exact S.lk a ob u q h', fun j s' x q => by
      have q : IsTr env j s' x := by
        rcases q with q | q
        · rcases other q with ⟨_, z⟩ | ⟨_, b⟩
          · cases z
          · exact .inl b
        · rcases other q with ⟨_, z⟩ | ⟨_, b⟩
          · cases z
          · exact .inr b
      obtain ⟨v, L, g1, g2, g3, g4⟩ := S.tr j s' x q
      refine ⟨v, L, g1, g2.mono s, g3, fun r hr => ⟨(g4 r hr).1, ?_⟩⟩
      rw [upd_ne (ne_of_none (g4 r hr).2 h2)]; exact (g4 r hr).2, fun a m e => by
      by_cases ha : a = p
      · subst ha; rw [upd_same] at e; cases e; cases hb
      · rw [upd_ne ha] at e; exact S.mr a m e, fun a g => ⟨(S.gv a g).1, S.gm (fun b hb => upd_ne (fun z => hb (by rw [z]; exact n0))) g⟩, fun a ks h' => by
      by_cases ha : a = p
      · subst ha; rw [upd_same, ← h']; exact ho.symm
      · rw [upd_ne ha]; exact S.kt a ks h', S.tb⟩
  · by_cases ha : a = p
    · subst ha; rw [upd_same] at q; cases q; exact .inl ho
    · rw [upd_ne ha] at q; exact S.fh a u q
  · rcases other q with ⟨rfl, z⟩ | ⟨a, b⟩
    · cases z; exact ⟨_, h1, hd⟩
    · obtain ⟨v, h5, h6⟩ := S.fz j x b
      exact ⟨v, h5, h6.mono s⟩
  · obtain ⟨hj, q⟩ := ow' q
    obtain ⟨r, g1, g2, g3, g4⟩ := S.own j x q
    have ne : r ≠ p := by
      rintro rfl
      exact hj (S.ap j i x d r q (.inl e) g1 h1)
    exact ⟨r, g1, by rw [upd_ne ne]; exact g2, g3.mono s fun u hu => hu, g4⟩
  · obtain ⟨⟨x, hx⟩, hs⟩ := S.pm q hq
    have : q.1 ≠ i := by
      rintro z
      unfold IsPw at hx
      rw [z, e] at hx
      rcases hx with hx | ⟨_, _, _, hx⟩ <;> cases hx
    exact ⟨⟨x, by unfold IsPw; rw [List.getElem?_set_ne (Ne.symm this)]; exact hx⟩, hs⟩
  · by_cases ha : q = p
    · subst ha; exact n0
    · rw [upd_ne ha] at b; exact S.nw q a b
  · obtain ⟨g1, g2, g3, g4⟩ := S.hx q hq
    have ne : q.1 ≠ p := fun z => g4 i d (.inl e) (by rw [z]; exact h1)
    exact ⟨g1, by rw [upd_ne ne]; exact g2, g3, fun j x h => g4 j x (ow' h).2⟩
/-- a name's own tree is put to the others -/
theorem Sl.frozeT (S : Sl K B F H σ env) {i : Nat} {s : Sh} {d : D} (e : env[i]? = some (.tr s d)) (f : s.flat = true) : ∃ v F', σ[i]? = some (some v) ∧ Sub F F' ∧ Dt K F' v d ∧ Sl K B F' H σ (env.set i (.fz d)) := by
  obtain ⟨v, L, h1, h2, h3, h4⟩ := S.tr i s d (.inl e)
  have nf := h2.nf f
  obtain ⟨F', hF'⟩ : ∃ F' : Hp, F' = fun a => if a ∈ L.map (·.1) then H a else F a := ⟨_, rfl⟩
  have fin : ∀ a, a ∈ L.map (·.1) → F' a = H a ∧ F a = some (.own i) ∧ ∃ o, H a = some o ∧ Nf o := fun a ha => by
    obtain ⟨q, hq, rfl⟩ := List.mem_map.mp ha
    exact ⟨by rw [hF']; exact if_pos ha, (h4 q hq).2, q.2, (h4 q hq).1, nf q hq⟩
  have fout : ∀ a, a ∉ L.map (·.1) → F' a = F a := fun a ha => by rw [hF']; exact if_neg ha
  have fo : ∀ a, F a ≠ some (.own i) → F' a = F a := fun a ha => fout a fun z => ha (fin a z).2.1
  have sb : Sub F F' := fun a o e m => by
    rw [fo a (fun z => by rw [e] at z; cases z; cases m)]; exact e
  have hd : Dt K F' v d := h2.froze sb f fun q hq => by
    rw [(fin q.1 (List.mem_map.mpr ⟨q, hq, rfl⟩)).1]; exact (h4 q hq).1
  have hi : i < env.length := (List.getElem?_eq_some_iff.mp e).1
  have other : ∀ {j : Nat} {x : Sv}, (env.set i (.fz d))[j]? = some x → (j = i ∧ x = .fz d) ∨ (j ≠ i ∧ env[j]? = some x) := fun {j x} q => by
    by_cases hj : j = i
    · subst hj
      rw [List.getElem?_set_self hi] at q
      cases q
      exact .inl ⟨rfl, rfl⟩
    · rw [List.getElem?_set_ne (Ne.symm hj)] at q
      exact .inr ⟨hj, q⟩
  have ow' : ∀ {j : Nat} {x : D}, IsOw (env.set i (.fz d)) j x → IsOw env j x := fun {j x} q => by
    rcases q with q | q
    · rcases other q with ⟨_, z⟩ | ⟨a, b⟩
      · cases z
      · exact .inl b
    · rcases other q with ⟨_, z⟩ | ⟨a, b⟩
      · cases z
      · exact .inr b
  refine ⟨v, F', h1, sb, hd, fun a u q => ?_, by simpa using S.len, fun j x q => ?_, fun j x q => ?_, fun j k x y q a b => S.ap j k x y q (ow' a) (ow' b), fun q hq => ?_, S.f0.trans sb, fun q a b => ?_, S.kp, fun q hq => ⟨(S.lc q hq).1, ?_⟩, fun q hq => ?_, fun a ob u q h' => ?_, fun j s' x q => ?_, fun a m e => ?_, fun a g => ⟨(S.gv a g).1, S.gv a g |>.2.1, S.gv a g |>.2.2.1, by
    rw [fout a (fun z => S.trG e (fin a z).2.1 g)]; exact (S.gv a g).2.2.2⟩, fun a ks h' => ?_, S.tb⟩
  rotate_right
  · by_cases ha : a ∈ L.map (·.1)
    · rw [(fin a ha).1]; exact h'
    · rw [fout a ha]; exact S.kt a ks h'
  · by_cases ha : a ∈ L.map (·.1)
    · rw [(fin a ha).1] at q; exact .inl q
    · rw [fout a ha] at q; exact S.fh a u q
  · rcases other q with ⟨rfl, z⟩ | ⟨_, b⟩
    · cases z; exact ⟨v, h1, hd⟩
    · obtain ⟨w, g1, g2⟩ := S.fz j x b
      exact ⟨w, g1, g2.mono sb⟩
  · obtain ⟨p, g1, g2, g3, g4⟩ := S.own j x (ow' q)
    exact ⟨p, g1, by rw [fo p (fun z => by rw [g2] at z; cases z)]; exact g2, g3.mono sb fun u hu => hu, g4⟩
  · obtain ⟨⟨x, hx⟩, hs⟩ := S.pm q hq
    have : q.1 ≠ i := by
      rintro z
      unfold IsPw at hx
      rw [z, e] at hx
      rcases hx with hx | ⟨_, _, _, hx⟩ <;> cases hx
    exact ⟨⟨x, by unfold IsPw; rw [List.getElem?_set_ne (Ne.symm this)]; exact hx⟩, hs⟩
  · by_cases ha : q ∈ L.map (·.1)
    · rcases S.mr q i (fin q ha).2.1 with g | g
      · exact g
      · rcases (S.gv q g).2.2.1 with z | z
        · exact absurd a z
        · have := (fin q ha).2.1
          rw [S.tbF z] at this; cases this
    · rw [fout q ha] at b; exact S.nw q a b
  · by_cases ha : q.1 ∈ L.map (·.1)
    · obtain ⟨_, _, o, ho, n⟩ := fin _ ha
      have := (S.lc q hq).1
      rw [ho] at this
      exact absurd (Option.some.inj this) (n.2 _ _)
    · rw [fout _ ha]; exact (S.lc q hq).2
  · obtain ⟨g1, g2, g3, g4⟩ := S.hx q hq
    exact ⟨g1, by rw [fo _ (fun z => by rw [g2] at z; cases z)]; exact g2, g3, fun j x o => g4 j x (ow' o)⟩
  · by_cases ha : a ∈ L.map (·.1)
    · obtain ⟨_, _, o, ho, n⟩ := fin _ ha
      rw [ho] at h'
      exact absurd (Option.some.inj h') (n.2 _ _)
    · rw [fout a ha] at q; exact S.lk a ob u q h'
  · have q : j ≠ i ∧ IsTr env j s' x := by
      rcases q with q | q
      · rcases other q with ⟨_, z⟩ | ⟨c, b⟩
        · cases z
        · exact ⟨c, .inl b⟩
      · rcases other q with ⟨_, z⟩ | ⟨c, b⟩
        · cases z
        · exact ⟨c, .inr b⟩
    obtain ⟨w, L', g1, g2, g3, g4⟩ := S.tr j s' x q.2
    refine ⟨w, L', g1, g2.mono sb, g3, fun r hr => ⟨(g4 r hr).1, ?_⟩⟩
    rw [fo _ (fun z => by rw [(g4 r hr).2] at z; cases z; exact q.1 rfl)]
    exact (g4 r hr).2
  · by_cases ha : a ∈ L.map (·.1)
    · obtain ⟨g1, _, o, ho, n⟩ := fin _ ha
      rw [g1, ho] at e; cases e; cases n.1
    · rw [fout a ha] at e; exact S.mr a m e
end
end DL
namespace DL
open PySem L2
section
variable {X : Cx} {Tb : TbT}
theorem PEi {e : Expr} {t u : TE} (h : PE X e t) (le : ∀ σ H Q, u σ H Q → t σ H Q) : PE X e u := ⟨fun pins s σ H Q I q => h.run pins s σ H Q I (le σ H Q q)⟩
theorem PTi {e : Expr} {t u : TT} (h : PT X e t) (le : ∀ σ H Q, u σ H Q → t σ H Q) : PT X e u := ⟨fun pins s σ H Q I q => h.run pins s σ H Q I (le σ H Q q)⟩
theorem PWi {e : Expr} {t u : TT} (h : PW X e t) (le : ∀ σ H Q, u σ H Q → t σ H Q) : PW X e u := ⟨fun wh pins s σ H Q I q => h.run wh pins s σ H Q I (le σ H Q q)⟩
theorem PAi {e : List Expr} {t u : TA} (h : PA X e t) (le : ∀ σ H Q, u σ H Q → t σ H Q) : PA X e u := ⟨fun pos pins s σ H Q I q => h.run pos pins s σ H Q I (le σ H Q q)⟩
theorem PSi {e : Stmt} {t u : TS} (h : PS X e t) (le : ∀ E σ H, u E σ H → t E σ H) : PS X e u := ⟨fun pins s σ H E I q => h.run pins s σ H E I (le E σ H q)⟩
theorem PSsi {e : List Stmt} {t u : TS} (h : PSs X e t) (le : ∀ E σ H, u E σ H → t E σ H) : PSs X e u := ⟨fun pins s σ H E I q => h.run pins s σ H E I (le E σ H q)⟩
end
abbrev Df := En → Option (D × En)
abbrev Bf := En → Option (Bool × En)
/-- the value is the data -/
def tD (K : Fg) (f : Df) : TE := fun σ H Q => ∃ B F env d env', Sl K B F H σ env ∧ f env = some (d, env') ∧ ∀ v F' H', Sl K B F' H' σ env' → Sub F F' → Dt K F' v d → Q v H'
/-- a new object that is nobody's yet -/
def tN (K : Fg) (f : Df) : TE := fun σ H Q => ∃ B F env d env', Sl K B F H σ env ∧ f env = some (d, env') ∧
  ∀ p F' H', Sl K B F' H' σ env' → Sub F F' → F' p = none → B.H0 p = none → (∀ i e, IsOw env' i e → σ[i]? ≠ some (some (.ref p))) → (∀ q ∈ B.X, q.1 ≠ p) → Own K F' H' p d → Q (.ref p) H'
def tT (K : Fg) (f : Bf) : TT := fun σ H Q => ∃ B F env b env', Sl K B F H σ env ∧ f env = some (b, env') ∧ ∀ F' H', Sl K B F' H' σ env' → Sub F F' → Q b H'
/-- what is an operand: an expression, or a name whose object may be one's own -/
inductive Opd where
  | ex (f : Df) | vr (i : Nat)
inductive OV where
  | fz (d : D) | sl (i : Nat)
def slotV (i : Nat) : Option Sv → Option OV
  | some (.fz d) => some (.fz d)
  | some (.ow _) => some (.sl i)
  | some (.pw _) => some (.sl i)
  | some (.tw .fz d) => some (.fz d)
  | _ => none
def Opd.ev : Opd → En → Option (OV × En)
  | .ex f, env => (f env).bind fun r => some (.fz r.1, r.2)
  | .vr i, env => (slotV i env[i]?).bind fun u => some (u, env)
def slotD : Option Sv → Option D
  | some (.fz d) => some d
  | some (.ow d) => some d
  | some (.pw d) => some d
  | _ => none
def OV.look : OV → En → Option D
  | .fz d, _ => some d
  | .sl i, env => slotD env[i]?
def OVr (K : Fg) (F : Hp) (σ : L2.St) : OV → V → Prop
  | .fz d, v => Dt K F v d
  | .sl i, v => σ[i]? = some (some v)
/-- read: of the others, or one's own -/
def Bv (K : Fg) (F H : Hp) (v : V) (d : D) : Prop := Dt K F v d ∨ ∃ p, v = .ref p ∧ F p = none ∧ Own K F H p d
theorem OVr.mono {K : Fg} {F G : Hp} {σ : L2.St} {u : OV} {v : V} (h : OVr K F σ u v) (s : Sub F G) : OVr K G σ u v := by
  cases u with
  | fz d => exact Dt.mono s h
  | sl i => exact h
theorem OVr.bv {K : Fg} {B : Bs} {F H : Hp} {σ : L2.St} {env : En} {u : OV} {v : V} {d : D} (S : Sl K B F H σ env) (h : OVr K F σ u v) (e : u.look env = some d) : Bv K F H v d := by
  cases u with
  | fz d' => cases e; exact .inl h
  | sl i =>
    have h' : σ[i]? = some (some v) := h
    have e' : slotD env[i]? = some d := e
    cases q : env[i]? with
    | none => rw [q] at e'; cases e'
    | some x =>
      rw [q] at e'
      cases x with
      | un => cases e'
      | fz d' =>
        cases e'
        obtain ⟨w, h1, h2⟩ := S.fz i _ q
        rw [h'] at h1; cases h1
        exact .inl h2
      | ow d' =>
        cases e'
        obtain ⟨p, h1, h2, h3, _⟩ := S.own i _ (.inl q)
        rw [h'] at h1; cases h1
        exact .inr ⟨p, rfl, h2, h3⟩
      | pw d' =>
        cases e'
        obtain ⟨p, h1, h2, h3, _⟩ := S.own i _ (.inr q)
        rw [h'] at h1; cases h1
        exact .inr ⟨p, rfl, h2, h3⟩
      | tr _ _ => cases e'
      | tw _ _ => cases e'
def tO (K : Fg) (o : Opd) : TE := fun σ H Q => ∃ B F env u env', Sl K B F H σ env ∧ o.ev env = some (u, env') ∧ ∀ v F' H', Sl K B F' H' σ env' → Sub F F' → OVr K F' σ u v → Q v H'
def evs : List Opd → En → Option (List OV × En)
  | [], env => some ([], env)
  | o :: r, env => (o.ev env).bind fun t => (evs r t.2).bind fun z => some (t.1 :: z.1, z.2)
def looks : List OV → En → Option (List D)
  | [], _ => some []
  | u :: r, env => (u.look env).bind fun d => (looks r env).bind fun ds => some (d :: ds)
def OVA (K : Fg) (F : Hp) (σ : L2.St) : List OV → List V → Prop
  | [], [] => True
  | u :: us, v :: vs => OVr K F σ u v ∧ OVA K F σ us vs
  | _, _ => False
def BvA (K : Fg) (F H : Hp) : List V → List D → Prop
  | [], [] => True
  | v :: vs, d :: ds => Bv K F H v d ∧ BvA K F H vs ds
  | _, _ => False
theorem OVA.mono {K : Fg} {F G : Hp} {σ : L2.St} (s : Sub F G) : ∀ {us : List OV} {vs : List V}, OVA K F σ us vs → OVA K G σ us vs
  | [], [], _ => trivial
  | _ :: _, _ :: _, h => ⟨h.1.mono s, h.2.mono s⟩
  | [], _ :: _, h => h.elim
  | _ :: _, [], h => h.elim
theorem OVA.bv {K : Fg} {B : Bs} {F H : Hp} {σ : L2.St} {env : En} (S : Sl K B F H σ env) : ∀ {us : List OV} {vs : List V} {ds : List D}, OVA K F σ us vs → looks us env = some ds → BvA K F H vs ds
  | [], [], _, _, e => by cases e; trivial
  | u :: us, v :: vs, ds, h, e => by
    obtain ⟨d, q, e⟩ := Option.bind_eq_some_iff.mp e
    obtain ⟨es, q2, e⟩ := Option.bind_eq_some_iff.mp e
    cases e
    exact ⟨h.1.bv S q, h.2.bv S q2⟩
  | [], _ :: _, _, h, _ => h.elim
  | _ :: _, [], _, h, _ => h.elim
def tAr (K : Fg) (os : List Opd) : TA := fun σ H Q => ∃ B F env us env', Sl K B F H σ env ∧ evs os env = some (us, env') ∧ ∀ vs F' H', Sl K B F' H' σ env' → Sub F F' → OVA K F' σ us vs → Q vs H'
section
variable {X : Cx} {Tb : TbT} {e a b : Expr} {es : List Expr} {pos : Pos}
/-- from a new object to the others -/
theorem de_new {f : Df} (h : PE X e (tN (X.kg Tb) f)) : PE X e (tD (X.kg Tb) f) := PEi h fun σ H Q ⟨B, F, env, d, env', S, ef, k⟩ => by
  refine ⟨B, F, env, d, env', S, ef, fun p F' H' S' s n n0 no nx ow => ?_⟩
  obtain ⟨o, ho, hb⟩ := ow.some
  exact k (.ref p) (upd F' p o) H' (S'.froze ho n n0 no nx hb) (s.trans (Sub.new n)) (ow.froze ho n)
theorem do_ex {f : Df} (h : PE X e (tD (X.kg Tb) f)) : PE X e (tO (X.kg Tb) (.ex f)) := PEi h fun σ H Q ⟨B, F, env, u, env', S, ef, k⟩ => by
  obtain ⟨⟨d, e1⟩, q, ef⟩ := Option.bind_eq_some_iff.mp (show (f env).bind (fun r => some (OV.fz r.1, r.2)) = some (u, env') from ef)
  cases ef
  exact ⟨B, F, env, d, _, S, q, fun v F' H' S' s hd => k v F' H' S' s hd⟩
theorem do_vr (i : Nat) {x : Str} (hN : X.N[i]? = some x := by rfl) (hv : Vis X.env.scope x := by first | exact Or.inl rfl | exact Or.inr (Or.inl rfl) | exact Or.inr (Or.inr rfl)) (hd : (x == ("__debug__" : Str)) = false := by decide)
    (hcd : (x == ("__classdict__" : Str)) = false := by decide) : PE X (.Name x pos) (tO (X.kg Tb) (.vr i)) := PEi (pe_var hN hv hd hcd) fun σ H Q ⟨B, F, env, u, env', S, ef, k⟩ => by
  dsimp only [Opd.ev] at ef
  cases q : env[i]? with
  | none => rw [q] at ef; cases ef
  | some z =>
    rw [q] at ef
    cases z with
    | un => cases ef
    | fz d =>
      cases ef
      obtain ⟨v, h1, h2⟩ := S.fz i d q
      exact ⟨v, h1, k v F H S (Sub.refl F) h2⟩
    | ow d =>
      cases ef
      obtain ⟨p, h1, _⟩ := S.own i d (.inl q)
      exact ⟨_, h1, k _ F H S (Sub.refl F) h1⟩
    | pw d =>
      cases ef
      obtain ⟨p, h1, _⟩ := S.own i d (.inr q)
      exact ⟨_, h1, k _ F H S (Sub.refl F) h1⟩
    | tr _ _ => cases ef
    | tw s d =>
      cases s with
      | fz =>
        cases ef
        obtain ⟨v, L, h1, h2, _⟩ := S.tr i .fz d (.inr q)
        cases h2 with
        | fz h2 => exact ⟨v, h1, k v F H S (Sub.refl F) h2⟩
      | _ => cases ef
/-- a name's value, handed on: one's own object is put to the others -/
def eVar (i : Nat) : Df := fun env => match env[i]? with
  | some (.fz d) => some (d, env)
  | some (.ow d) => some (d, env.set i (.fz d))
  | some (.tr s d) => if s.flat = true then some (d, env.set i (.fz d)) else none
  | some (.tw .fz d) => some (d, env)
  | _ => none
theorem de_var (i : Nat) {x : Str} (hN : X.N[i]? = some x := by rfl) (hv : Vis X.env.scope x := by first | exact Or.inl rfl | exact Or.inr (Or.inl rfl) | exact Or.inr (Or.inr rfl)) (hd : (x == ("__debug__" : Str)) = false := by decide)
    (hcd : (x == ("__classdict__" : Str)) = false := by decide) : PE X (.Name x pos) (tD (X.kg Tb) (eVar i)) := PEi (pe_var hN hv hd hcd) fun σ H Q ⟨B, F, env, d, env', S, ef, k⟩ => by
  unfold eVar at ef
  cases q : env[i]? with
  | none => rw [q] at ef; cases ef
  | some z =>
    rw [q] at ef
    cases z with
    | un => cases ef
    | pw _ => cases ef
    | tw s d =>
      cases s with
      | fz =>
        cases ef
        obtain ⟨v, L, h1, h2, _⟩ := S.tr i .fz d (.inr q)
        cases h2 with
        | fz h2 => exact ⟨v, h1, k v F H S (Sub.refl F) h2⟩
      | _ => cases ef
    | fz d =>
      cases ef
      obtain ⟨v, h1, h2⟩ := S.fz i d q
      exact ⟨v, h1, k v F H S (Sub.refl F) h2⟩
    | tr s d =>
      dsimp only at ef
      split at ef
      · rename_i f
        cases ef
        obtain ⟨v, F', h1, s, hd, S'⟩ := S.frozeT q f
        exact ⟨_, h1, k _ _ H S' s hd⟩
      · cases ef
    | ow d =>
      cases ef
      obtain ⟨p, o, h1, s, hd, S'⟩ := S.frozeAt q
      exact ⟨_, h1, k _ _ H S' s hd⟩
def eC (d : D) : Df := fun env => some (d, env)
theorem de_c {v : V} {d : D} (h : PE X e (tC v)) (hd : ∀ F, Dt (X.kg Tb) F v d) : PE X e (tD (X.kg Tb) (eC d)) := PEi h fun σ H Q ⟨B, F, env, d', env', S, ef, k⟩ => by
  cases ef
  exact k v F H S (Sub.refl F) (hd F)
theorem de_int {i : Int} {j : Nat} : PE X (.Constant (.int i) j pos) (tD (X.kg Tb) (eC (.int i))) := de_c pe_int fun _ => .int i
theorem de_bool {b : Bool} {j : Nat} : PE X (.Constant (.bool b) j pos) (tD (X.kg Tb) (eC (.bool b))) := de_c pe_bl fun _ => .bl b
theorem de_none {j : Nat} : PE X (.Constant .none j pos) (tD (X.kg Tb) (eC .none)) := de_c pe_non fun _ => .non
theorem de_str {x : Str} {j : Nat} : PE X (.Constant (.str x) j pos) (tD (X.kg Tb) (eC (.str x))) := de_c pe_str fun _ => .str x
/-- a module's constant -/
theorem de_globInt {x : Str} {i : Int} {t : Tok} (hg : Gl X x) (hm : X.mg x = some (.int i t)) (hd : (x == ("__debug__" : Str)) = false := by decide) : PE X (.Name x pos) (tD (X.kg Tb) (eC (.int i))) := de_c (v := .int i) (pe_glob hg hm ⟨t, rfl⟩ hd) fun _ => .int i
theorem da_nil : PA X [] (tAr (X.kg Tb) []) := PAi pa_nil fun σ H Q ⟨B, F, env, us, env', S, ef, k⟩ => by
  cases ef
  exact k [] F H S (Sub.refl F) trivial
theorem da_cons {o : Opd} {os : List Opd} (ha : PE X e (tO (X.kg Tb) o)) (hr : PA X es (tAr (X.kg Tb) os)) (hs : starEach (e :: es) X.env = (false, eval e X.env) :: starEach es X.env := by rfl) : PA X (e :: es) (tAr (X.kg Tb) (o :: os)) :=
  PAi (pa_cons ha hr hs) fun σ H Q ⟨B, F, env, us, env', S, ef, k⟩ => by
    obtain ⟨⟨u, e1⟩, q, ef⟩ := Option.bind_eq_some_iff.mp (show (o.ev env).bind (fun t => (evs os t.2).bind fun z => some (t.1 :: z.1, z.2)) = some (us, env') from ef)
    obtain ⟨⟨us', e2⟩, q2, ef⟩ := Option.bind_eq_some_iff.mp ef
    cases ef
    exact ⟨B, F, env, u, e1, S, q, fun v F1 H1 S1 s1 h1 => ⟨B, F1, e1, us', _, S1, q2, fun vs F2 H2 S2 s2 h2 => k (v :: vs) F2 H2 S2 (s1.trans s2) ⟨h1.mono s2, h2⟩⟩⟩
def op1 (g : D → Option D) (a : Opd) : Df := fun env => (a.ev env).bind fun r => (r.1.look r.2).bind fun x => (g x).bind fun d => some (d, r.2)
def op2 (g : D → D → Option D) (a b : Opd) : Df := fun env => (a.ev env).bind fun r => (b.ev r.2).bind fun t => (r.1.look t.2).bind fun x => (t.1.look t.2).bind fun y => (g x y).bind fun d => some (d, t.2)
def opA (g : List D → Option D) (os : List Opd) : Df := fun env => (evs os env).bind fun r => (looks r.1 r.2).bind fun ds => (g ds).bind fun d => some (d, r.2)
theorem bd {α β : Type} {o : Option α} {f : α → Option β} {b : β} (h : o.bind f = some b) : ∃ a, o = some a ∧ f a = some b := Option.bind_eq_some_iff.mp h
/-- what follows a value, a new object -/
def KD (K : Fg) (B : Bs) (F : Hp) (σ : L2.St) (env : En) (d : D) (Q : VK) : Prop := ∀ v F' H', Sl K B F' H' σ env → Sub F F' → Dt K F' v d → Q v H'
def KN (K : Fg) (B : Bs) (F : Hp) (σ : L2.St) (env : En) (d : D) (Q : VK) : Prop := ∀ p F' H', Sl K B F' H' σ env → Sub F F' → F' p = none → B.H0 p = none → (∀ i e, IsOw env i e → σ[i]? ≠ some (some (.ref p))) → (∀ q ∈ B.X, q.1 ≠ p) → Own K F' H' p d → Q (.ref p) H'
def Ok1 (K : Fg) (r : V → Hp → VK → Prop) (g : D → Option D) : Prop := ∀ {B : Bs} {F H : Hp} {σ : L2.St} {env : En} {x : V} {a d : D} {Q : VK}, Sl K B F H σ env → Bv K F H x a → g a = some d → KD K B F σ env d Q → r x H Q
def Ok2 (K : Fg) (r : R2) (g : D → D → Option D) : Prop := ∀ {B : Bs} {F H : Hp} {σ : L2.St} {env : En} {x y : V} {a b d : D} {Q : VK}, Sl K B F H σ env → Bv K F H x a → Bv K F H y b → g a b = some d → KD K B F σ env d Q → r x y H Q
def OkA (K : Fg) (r : List V → Hp → VK → Prop) (g : List D → Option D) : Prop := ∀ {B : Bs} {F H : Hp} {σ : L2.St} {env : En} {xs : List V} {ds : List D} {d : D} {Q : VK}, Sl K B F H σ env → BvA K F H xs ds → g ds = some d → KD K B F σ env d Q → r xs H Q
theorem op1_le {K : Fg} {r : V → Hp → VK → Prop} {g : D → Option D} {a : Opd} (ho : Ok1 K r g) : ∀ σ H Q, tD K (op1 g a) σ H Q → tUn r (tO K a) σ H Q := fun σ H Q ⟨B, F, env, d, env', S, ef, k⟩ => by
  obtain ⟨⟨u, e1⟩, q1, ef⟩ := bd ef
  obtain ⟨x, q2, ef⟩ := bd ef
  obtain ⟨d', q3, ef⟩ := bd ef
  cases ef
  exact ⟨B, F, env, u, _, S, q1, fun v F1 H1 S1 s1 h1 => ho S1 (h1.bv S1 q2) q3 fun v' F' H' S' s' h' => k v' F' H' S' (s1.trans s') h'⟩
theorem op2_le {K : Fg} {r : R2} {g : D → D → Option D} {a b : Opd} (ho : Ok2 K r g) : ∀ σ H Q, tD K (op2 g a b) σ H Q → tOp r (tO K a) (tO K b) σ H Q := fun σ H Q ⟨B, F, env, d, env', S, ef, k⟩ => by
  obtain ⟨⟨u, e1⟩, q1, ef⟩ := bd ef
  obtain ⟨⟨w, e2⟩, q2, ef⟩ := bd ef
  obtain ⟨x, q3, ef⟩ := bd ef
  obtain ⟨y, q4, ef⟩ := bd ef
  obtain ⟨d', q5, ef⟩ := bd ef
  cases ef
  exact ⟨B, F, env, u, e1, S, q1, fun v F1 H1 S1 s1 h1 => ⟨B, F1, e1, w, _, S1, q2, fun v2 F2 H2 S2 s2 h2 => ho S2 ((h1.mono s2).bv S2 q3) (h2.bv S2 q4) q5 fun v' F' H' S' s' h' => k v' F' H' S' ((s1.trans s2).trans s') h'⟩⟩
theorem opA_le {K : Fg} {r : List V → Hp → VK → Prop} {g : List D → Option D} {os : List Opd} (ho : OkA K r g) : ∀ σ H Q, tD K (opA g os) σ H Q → tCB r (tAr K os) σ H Q := fun σ H Q ⟨B, F, env, d, env', S, ef, k⟩ => by
  obtain ⟨⟨us, e1⟩, q1, ef⟩ := bd ef
  obtain ⟨ds, q2, ef⟩ := bd ef
  obtain ⟨d', q3, ef⟩ := bd ef
  cases ef
  exact ⟨B, F, env, us, _, S, q1, fun vs F1 H1 S1 s1 h1 => ho S1 (h1.bv S1 q2) q3 fun v' F' H' S' s' h' => k v' F' H' S' (s1.trans s') h'⟩
theorem de_op {op : Operator} {r : R2} {g : D → D → Option D} {oa ob : Opd} (ho : OpR X (binaryOp op) r) (hk : Ok2 (X.kg Tb) r g) (ha : PE X a (tO (X.kg Tb) oa)) (hb : PE X b (tO (X.kg Tb) ob)) : PE X (.BinOp a op b pos) (tD (X.kg Tb) (op2 g oa ob)) := PEi (pe_op ho ha hb) (op2_le hk)
theorem de_cmp {op : CmpOp} {r : R2} {g : D → D → Option D} {oa ob : Opd} (ho : OpR X (compareOp op) r) (hk : Ok2 (X.kg Tb) r g) (ha : PE X a (tO (X.kg Tb) oa)) (hb : PE X b (tO (X.kg Tb) ob)) (hm : behindInMarks op b = false) : PE X (.Compare a [op] [b] pos) (tD (X.kg Tb) (op2 g oa ob)) := PEi (pe_cmpR ho ha hb hm) (op2_le hk)
theorem de_callB {x : Str} {p : Pos} {id : String} {r : List V → Hp → VK → Prop} {g : List D → Option D} {os : List Opd} (hc : CallR X (.builtin id) r) (hk : OkA (X.kg Tb) r g) (hg : Gl X x) (hm : X.mg x = none) (hv : bootBuiltins x = some (.builtin id)) (ha : PA X (e :: es) (tAr (X.kg Tb) os)) (hn : x ≠ "__name__" := by decide) (hdb : (x == ("__debug__" : Str)) = false := by decide)
    (he : starEach (e :: es) X.env = (false, eval e X.env) :: starEach es X.env := by rfl) (hpl : (backTo pos (starEach es X.env)).any (·.1) = false := by rfl) : PE X (.Call (.Name x p) (e :: es) [] pos) (tD (X.kg Tb) (opA g os)) := PEi (pe_callB hc hg hm hv ha hn hdb he hpl) (opA_le hk)
theorem de_callTy {x : Str} {p : Pos} {T : String} {r : List V → Hp → VK → Prop} {g : List D → Option D} {os : List Opd} (hc : CallR X (.type T) r) (hk : OkA (X.kg Tb) r g) (hg : Gl X x) (hm : X.mg x = none) (hv : bootBuiltins x = some (.type T)) (ha : PA X (e :: es) (tAr (X.kg Tb) os)) (hn : x ≠ "__name__" := by decide) (hdb : (x == ("__debug__" : Str)) = false := by decide)
    (he : starEach (e :: es) X.env = (false, eval e X.env) :: starEach es X.env := by rfl) (hpl : (backTo pos (starEach es X.env)).any (·.1) = false := by rfl) : PE X (.Call (.Name x p) (e :: es) [] pos) (tD (X.kg Tb) (opA g os)) := PEi (pe_callTy hc hg hm hv ha hn hdb he hpl) (opA_le hk)
end
end DL
namespace DL
open PySem L2
def bD (f : Df) : Bf := fun env => (f env).bind fun r => match r.1 with
  | .bool b => some (b, r.2)
  | _ => none
def bAnd (f g : Bf) : Bf := fun env => (f env).bind fun r => if r.1 = true then g r.2 else some (false, r.2)
def bOr (f g : Bf) : Bf := fun env => (f env).bind fun r => if r.1 = true then some (true, r.2) else g r.2
def bNot (f : Bf) : Bf := fun env => (f env).bind fun r => some (!r.1, r.2)
def eAnd (f g : Df) : Df := fun env => (bD f env).bind fun r => if r.1 = true then g r.2 else some (.bool false, r.2)
def eOr (f g : Df) : Df := fun env => (bD f env).bind fun r => if r.1 = true then some (.bool true, r.2) else g r.2
def eNot (f : Df) : Df := fun env => (bD f env).bind fun r => some (.bool (!r.1), r.2)
def eIf (c : Bf) (f g : Df) : Df := fun env => (c env).bind fun r => if r.1 = true then f r.2 else g r.2
def eChain (g g' : D → D → Option D) (a b c : Opd) : Df := fun env => (a.ev env).bind fun r => (b.ev r.2).bind fun t => (r.1.look t.2).bind fun x => (t.1.look t.2).bind fun y => (g x y).bind fun d => match d with
  | .bool true => (c.ev t.2).bind fun z => (t.1.look z.2).bind fun y' => (z.1.look z.2).bind fun w => (g' y' w).bind fun d' => some (d', z.2)
  | .bool false => some (.bool false, t.2)
  | _ => none
theorem Dt.bool_inv {K : Fg} {F : Hp} {v : V} {b : Bool} (h : Dt K F v (.bool b)) : v = .bl b := by cases h; rfl
theorem Dt.int_inv {K : Fg} {F : Hp} {v : V} {i : Int} (h : Dt K F v (.int i)) : v = .int i := by cases h; rfl
theorem Dt.str_inv {K : Fg} {F : Hp} {v : V} {x : Str} (h : Dt K F v (.str x)) : v = .str x := by cases h; rfl
theorem Dt.none_inv {K : Fg} {F : Hp} {v : V} (h : Dt K F v .none) : v = .non := by cases h; rfl
theorem Bv.dt {K : Fg} {F H : Hp} {v : V} {d : D} (h : Bv K F H v d) (n : ∀ p, ¬ Own K F H p d) : Dt K F v d := by
  rcases h with h | ⟨p, _, _, h⟩
  · exact h
  · exact absurd h (n p)
theorem Bv.bool_inv {K : Fg} {F H : Hp} {v : V} {b : Bool} (h : Bv K F H v (.bool b)) : v = .bl b := (h.dt fun _ z => z).bool_inv
theorem Bv.int_inv {K : Fg} {F H : Hp} {v : V} {b : Int} (h : Bv K F H v (.int b)) : v = .int b := (h.dt fun _ z => z).int_inv
theorem Bv.str_inv {K : Fg} {F H : Hp} {v : V} {b : Str} (h : Bv K F H v (.str b)) : v = .str b := (h.dt fun _ z => z).str_inv
theorem Bv.none_inv {K : Fg} {F H : Hp} {v : V} (h : Bv K F H v .none) : v = .non := (h.dt fun _ z => z).none_inv
theorem bD_inv {f : Df} {env : En} {b : Bool} {e : En} (h : bD f env = some (b, e)) : f env = some (.bool b, e) := by
  obtain ⟨⟨d, e1⟩, q, h⟩ := bd h
  cases d <;> first | (cases h; done) | skip
  cases h
  exact q
section
variable {X : Cx} {Tb : TbT} {e a b c : Expr} {rest : List Expr} {pos : Pos}
theorem dt_val {f : Df} (h : PE X e (tD (X.kg Tb) f)) (he : ∀ whole, isTrue e X.env whole = (do let v ← whole; standAt e.pos; holding [v] (truthy v)) := by intro _; rfl) : PT X e (tT (X.kg Tb) (bD f)) :=
  PTi (pt_val h he) fun σ H Q ⟨B, F, env, b, env', S, ef, k⟩ => ⟨B, F, env, .bool b, env', S, bD_inv ef, fun v F' H' S' s h => ⟨b, h.bool_inv, k F' H' S' s⟩⟩
theorem dt_cmp {op : CmpOp} {r : R2} {g : D → D → Option D} {oa ob : Opd} (ho : OpR X (compareOp op) r) (hk : Ok2 (X.kg Tb) r g) (ha : PE X a (tO (X.kg Tb) oa)) (hb : PE X b (tO (X.kg Tb) ob)) (hm : behindInMarks op b = false) : PT X (.Compare a [op] [b] pos) (tT (X.kg Tb) (bD (op2 g oa ob))) :=
  PTi (pt_cmpR ho ha hb hm) fun σ H Q ⟨B, F, env, b, env', S, ef, k⟩ => op2_le hk σ H _ ⟨B, F, env, .bool b, env', S, bD_inv ef, fun v F' H' S' s h => ⟨b, h.bool_inv, k F' H' S' s⟩⟩
theorem chain_le {K : Fg} {r r' : R2} {g g' : D → D → Option D} {oa ob oc : Opd} (hk : Ok2 K r g) (hk' : Ok2 K r' g') : ∀ σ H Q, tD K (eChain g g' oa ob oc) σ H Q → tChain r r' (tO K oa) (tO K ob) (tO K oc) σ H Q := fun σ H Q ⟨B, F, env, d, env', S, ef, k⟩ => by
  obtain ⟨⟨u, e1⟩, q1, ef⟩ := bd ef
  obtain ⟨⟨w, e2⟩, q2, ef⟩ := bd ef
  obtain ⟨x, q3, ef⟩ := bd ef
  obtain ⟨y, q4, ef⟩ := bd ef
  obtain ⟨d', q5, ef⟩ := bd ef
  refine ⟨B, F, env, u, e1, S, q1, fun v F1 H1 S1 s1 h1 => ⟨B, F1, e1, w, e2, S1, q2, fun v2 F2 H2 S2 s2 h2 => hk S2 ((h1.mono s2).bv S2 q3) (h2.bv S2 q4) q5 fun v' F' H' S' s' h' => ?_⟩⟩
  cases d' <;> first | (cases ef; done) | skip
  rename_i t
  refine ⟨t, h'.bool_inv, ?_⟩
  cases t with
  | false =>
    rw [if_neg Bool.false_ne_true]
    cases ef
    exact k _ F' H' S' ((s1.trans s2).trans s') (.bl false)
  | true =>
    rw [if_pos rfl]
    obtain ⟨⟨z, e3⟩, q6, ef⟩ := bd ef
    obtain ⟨y', q7, ef⟩ := bd ef
    obtain ⟨w', q8, ef⟩ := bd ef
    obtain ⟨d', q9, ef⟩ := bd ef
    cases ef
    exact ⟨B, F', e2, z, _, S', q6, fun v3 F3 H3 S3 s3 h3 => hk' S3 (((h2.mono s').mono s3).bv S3 q7) (h3.bv S3 q8) q9 fun v4 F4 H4 S4 s4 h4 => k v4 F4 H4 S4 ((((s1.trans s2).trans s').trans s3).trans s4) h4⟩
theorem de_chain {op op' : CmpOp} {r r' : R2} {g g' : D → D → Option D} {oa ob oc : Opd} (ho : OpR X (compareOp op) r) (hk : Ok2 (X.kg Tb) r g) (ho' : OpR X (compareOp op') r') (hk' : Ok2 (X.kg Tb) r' g') (ha : PE X a (tO (X.kg Tb) oa)) (hb : PE X b (tO (X.kg Tb) ob)) (hc : PE X c (tO (X.kg Tb) oc))
    (hm : lastMarks [op, op'] [b, c] = false := by with_unfolding_all rfl) : PE X (.Compare a [op, op'] [b, c] pos) (tD (X.kg Tb) (eChain g g' oa ob oc)) := PEi (pe_chain ho ho' ha hb hc hm) (chain_le hk hk')
theorem dt_chain {op op' : CmpOp} {r r' : R2} {g g' : D → D → Option D} {oa ob oc : Opd} (ho : OpR X (compareOp op) r) (hk : Ok2 (X.kg Tb) r g) (ho' : OpR X (compareOp op') r') (hk' : Ok2 (X.kg Tb) r' g') (ha : PE X a (tO (X.kg Tb) oa)) (hb : PE X b (tO (X.kg Tb) ob)) (hc : PE X c (tO (X.kg Tb) oc))
    (hm : lastMarks [op, op'] [b, c] = false := by with_unfolding_all rfl) : PT X (.Compare a [op, op'] [b, c] pos) (tT (X.kg Tb) (bD (eChain g g' oa ob oc))) :=
  PTi (pt_chain ho ho' ha hb hc hm) fun σ H Q ⟨B, F, env, b, env', S, ef, k⟩ => chain_le hk hk' σ H _ ⟨B, F, env, .bool b, env', S, bD_inv ef, fun v F' H' S' s h => ⟨b, h.bool_inv, k F' H' S' s⟩⟩
theorem dw_and1 {f : Bf} (ha : PT X a (tT (X.kg Tb) f)) : PW X (.BoolOp .And [a] pos) (tT (X.kg Tb) f) := pw_and1 ha
theorem dw_or1 {f : Bf} (ha : PT X a (tT (X.kg Tb) f)) : PW X (.BoolOp .Or [a] pos) (tT (X.kg Tb) f) := pw_or1 ha
theorem dw_and {f g : Bf} (ha : PT X a (tT (X.kg Tb) f)) (hb : PW X (.BoolOp .And (b :: rest) pos) (tT (X.kg Tb) g)) : PW X (.BoolOp .And (a :: b :: rest) pos) (tT (X.kg Tb) (bAnd f g)) :=
  PWi (pw_and ha hb) fun σ H Q ⟨B, F, env, b, env', S, ef, k⟩ => by
    obtain ⟨⟨c, e1⟩, q1, ef⟩ := bd ef
    refine ⟨B, F, env, c, e1, S, q1, fun F1 H1 S1 s1 => ?_⟩
    cases c with
    | true =>
      rw [if_pos rfl]
      rw [if_pos rfl] at ef
      exact ⟨B, F1, e1, b, env', S1, ef, fun F2 H2 S2 s2 => k F2 H2 S2 (s1.trans s2)⟩
    | false =>
      rw [if_neg Bool.false_ne_true]
      rw [if_neg Bool.false_ne_true] at ef
      cases ef
      exact k F1 H1 S1 s1
theorem dw_or {f g : Bf} (ha : PT X a (tT (X.kg Tb) f)) (hb : PW X (.BoolOp .Or (b :: rest) pos) (tT (X.kg Tb) g)) : PW X (.BoolOp .Or (a :: b :: rest) pos) (tT (X.kg Tb) (bOr f g)) :=
  PWi (pw_or ha hb) fun σ H Q ⟨B, F, env, b, env', S, ef, k⟩ => by
    obtain ⟨⟨c, e1⟩, q1, ef⟩ := bd ef
    refine ⟨B, F, env, c, e1, S, q1, fun F1 H1 S1 s1 => ?_⟩
    cases c with
    | false =>
      rw [if_neg Bool.false_ne_true]
      rw [if_neg Bool.false_ne_true] at ef
      exact ⟨B, F1, e1, b, env', S1, ef, fun F2 H2 S2 s2 => k F2 H2 S2 (s1.trans s2)⟩
    | true =>
      rw [if_pos rfl]
      rw [if_pos rfl] at ef
      cases ef
      exact k F1 H1 S1 s1
theorem dt_not {f : Bf} (ha : PT X a (tT (X.kg Tb) f)) : PT X (.UnaryOp .Not a pos) (tT (X.kg Tb) (bNot f)) :=
  PTi (pt_not ha) fun σ H Q ⟨B, F, env, b, env', S, ef, k⟩ => by
    obtain ⟨⟨c, e1⟩, q1, ef⟩ := bd ef
    cases ef
    exact ⟨B, F, env, c, _, S, q1, k⟩
theorem de_one {op : BoolOp} {f : Df} (h : PE X a (tD (X.kg Tb) f)) : PE X (.BoolOp op [a] pos) (tD (X.kg Tb) f) := pe_one h
theorem de_and {f g : Df} (ha : PE X a (tD (X.kg Tb) f)) (hb : PE X (.BoolOp .And (b :: rest) pos) (tD (X.kg Tb) g)) : PE X (.BoolOp .And (a :: b :: rest) pos) (tD (X.kg Tb) (eAnd f g)) :=
  PEi (pe_and ha hb) fun σ H Q ⟨B, F, env, d, env', S, ef, k⟩ => by
    obtain ⟨⟨c, e1⟩, q1, ef⟩ := bd ef
    refine ⟨B, F, env, .bool c, e1, S, bD_inv q1, fun v F1 H1 S1 s1 h1 => ⟨c, h1.bool_inv, ?_⟩⟩
    cases c with
    | true =>
      rw [if_pos rfl]
      rw [if_pos rfl] at ef
      exact ⟨B, F1, e1, d, env', S1, ef, fun v2 F2 H2 S2 s2 h2 => k v2 F2 H2 S2 (s1.trans s2) h2⟩
    | false =>
      rw [if_neg Bool.false_ne_true]
      rw [if_neg Bool.false_ne_true] at ef
      cases ef
      exact k _ F1 H1 S1 s1 (.bl false)
theorem de_or {f g : Df} (ha : PE X a (tD (X.kg Tb) f)) (hb : PE X (.BoolOp .Or (b :: rest) pos) (tD (X.kg Tb) g)) : PE X (.BoolOp .Or (a :: b :: rest) pos) (tD (X.kg Tb) (eOr f g)) :=
  PEi (pe_or ha hb) fun σ H Q ⟨B, F, env, d, env', S, ef, k⟩ => by
    obtain ⟨⟨c, e1⟩, q1, ef⟩ := bd ef
    refine ⟨B, F, env, .bool c, e1, S, bD_inv q1, fun v F1 H1 S1 s1 h1 => ⟨c, h1.bool_inv, ?_⟩⟩
    cases c with
    | false =>
      rw [if_neg Bool.false_ne_true]
      rw [if_neg Bool.false_ne_true] at ef
      exact ⟨B, F1, e1, d, env', S1, ef, fun v2 F2 H2 S2 s2 h2 => k v2 F2 H2 S2 (s1.trans s2) h2⟩
    | true =>
      rw [if_pos rfl]
      rw [if_pos rfl] at ef
      cases ef
      exact k _ F1 H1 S1 s1 (.bl true)
theorem de_not {f : Df} (ha : PE X a (tD (X.kg Tb) f)) : PE X (.UnaryOp .Not a pos) (tD (X.kg Tb) (eNot f)) :=
  PEi (pe_not ha) fun σ H Q ⟨B, F, env, d, env', S, ef, k⟩ => by
    obtain ⟨⟨c, e1⟩, q1, ef⟩ := bd ef
    cases ef
    exact ⟨B, F, env, .bool c, _, S, bD_inv q1, fun v F1 H1 S1 s1 h1 => ⟨c, h1.bool_inv, k _ F1 H1 S1 s1 (.bl _)⟩⟩
theorem de_if {t : Bf} {f g : Df} (hc : PT X c (tT (X.kg Tb) t)) (ha : PE X a (tD (X.kg Tb) f)) (hb : PE X b (tD (X.kg Tb) g)) : PE X (.IfExp c a b pos) (tD (X.kg Tb) (eIf t f g)) :=
  PEi (pe_ifExp hc ha hb) fun σ H Q ⟨B, F, env, d, env', S, ef, k⟩ => by
    obtain ⟨⟨c, e1⟩, q1, ef⟩ := bd ef
    refine ⟨B, F, env, c, e1, S, q1, fun F1 H1 S1 s1 => ?_⟩
    cases c with
    | true =>
      rw [if_pos rfl]
      rw [if_pos rfl] at ef
      exact ⟨B, F1, e1, d, env', S1, ef, fun v2 F2 H2 S2 s2 h2 => k v2 F2 H2 S2 (s1.trans s2) h2⟩
    | false =>
      rw [if_neg Bool.false_ne_true]
      rw [if_neg Bool.false_ne_true] at ef
      exact ⟨B, F1, e1, d, env', S1, ef, fun v2 F2 H2 S2 s2 h2 => k v2 F2 H2 S2 (s1.trans s2) h2⟩
end
/-- a name that may be stored: none of the caller's own -/
def mayPut : Option Sv → Bool
  | some (.pw _) => false
  | some (.tw _ _) => false
  | some _ => true
  | none => false
def put (i : Nat) (x : Sv) (env : En) : Option En := if mayPut env[i]? = true then some (env.set i x) else none
theorem put_inv {i : Nat} {x : Sv} {env e : En} (h : put i x env = some e) : i < env.length ∧ (∀ d, ¬ IsPw env i d) ∧ e = env.set i x := by
  unfold put at h
  split at h
  · rename_i m
    cases h
    cases q : env[i]? with
    | none => rw [q] at m; cases m
    | some z =>
      refine ⟨(List.getElem?_eq_some_iff.mp q).1, fun d z' => ?_, rfl⟩
      rw [q] at m
      rcases z' with z' | ⟨_, _, _, z'⟩ <;> (rw [q] at z'; cases z'; cases m)
  · cases h
section
variable {K : Fg} {B : Bs} {F H : Hp} {σ : L2.St} {env : En}
theorem set_other {i j : Nat} {x y : Sv} (hi : i < env.length) (q : (env.set i x)[j]? = some y) : (j = i ∧ y = x) ∨ (j ≠ i ∧ env[j]? = some y) := by
  by_cases hj : j = i
  · subst hj
    rw [List.getElem?_set_self hi] at q
    cases q
    exact .inl ⟨rfl, rfl⟩
  · rw [List.getElem?_set_ne (Ne.symm hj)] at q
    exact .inr ⟨hj, q⟩
theorem set_tr {i j : Nat} {x : Sv} {s : Sh} {y : D} (hi : i < env.length) (nx : ∀ s d, x ≠ .tr s d ∧ x ≠ .tw s d) (q : IsTr (env.set i x) j s y) : j ≠ i ∧ IsTr env j s y := by
  rcases q with q | q
  · rcases set_other hi q with ⟨_, z⟩ | ⟨a, b⟩
    · exact absurd z.symm (nx _ _).1
    · exact ⟨a, .inl b⟩
  · rcases set_other hi q with ⟨_, z⟩ | ⟨a, b⟩
    · exact absurd z.symm (nx _ _).2
    · exact ⟨a, .inr b⟩
theorem sset_other {σ : L2.St} {i j : Nat} {x : Option V} (hj : j ≠ i) : (σ.set i x)[j]? = σ[j]? := List.getElem?_set_ne (Ne.symm hj)
theorem Sl.set (S : Sl K B F H σ env) {i : Nat} {v : V} {d : D} (hi : i < env.length) (np : ∀ d, ¬ IsPw env i d) (hd : Dt K F v d) : Sl K B F H (σ.set i (some v)) (env.set i (.fz d)) := by
  have hs : i < σ.length := S.len ▸ hi
  have ow' : ∀ {j : Nat} {x : D}, IsOw (env.set i (.fz d)) j x → j ≠ i ∧ IsOw env j x := fun {j x} q => by
    rcases q with q | q
    · rcases set_other hi q with ⟨_, z⟩ | ⟨a, b⟩
      · cases z
      · exact ⟨a, .inl b⟩
    · rcases set_other hi q with ⟨_, z⟩ | ⟨a, b⟩
      · cases z
      · exact ⟨a, .inr b⟩
  refine ⟨S.fh, by simpa using S.len, fun j x q => ?_, fun j x q => ?_, fun j k x y p a b c d => ?_, fun q hq => ?_, S.f0, S.nw, S.kp, S.lc, fun q hq => ?_, S.lk, fun j s y q => by
    obtain ⟨hj, q⟩ := set_tr hi (fun _ _ => ⟨(by intro z; cases z), (by intro z; cases z)⟩) q
    rw [sset_other hj]; exact S.tr j s y q, S.mr, S.gv, S.kt, S.tb⟩
  · rcases set_other hi q with ⟨rfl, z⟩ | ⟨a, b⟩
    · cases z
      exact ⟨v, by rw [List.getElem?_set_self hs], hd⟩
    · rw [sset_other a]
      exact S.fz j x b
  · obtain ⟨hj, q⟩ := ow' q
    rw [sset_other hj]
    exact S.own j x q
  · obtain ⟨hj, a⟩ := ow' a
    obtain ⟨hk, b⟩ := ow' b
    rw [sset_other hj] at c
    rw [sset_other hk] at d
    exact S.ap j k x y p a b c d
  · obtain ⟨⟨x, hx⟩, h2⟩ := S.pm q hq
    have : q.1 ≠ i := by
      rintro z
      rw [z] at hx
      exact np x hx
    unfold IsPw
    rw [List.getElem?_set_ne (Ne.symm this), sset_other this]
    exact ⟨⟨x, hx⟩, h2⟩
  · obtain ⟨g1, g2, g3, g4⟩ := S.hx q hq
    exact ⟨g1, g2, g3, fun j x h => by
      obtain ⟨hj, h⟩ := ow' h
      rw [sset_other hj]
      exact g4 j x h⟩
theorem Sl.setO (S : Sl K B F H σ env) {i : Nat} {p : Addr} {d : D} (hi : i < env.length) (np : ∀ d, ¬ IsPw env i d) (n : F p = none) (n0 : B.H0 p = none) (no : ∀ j e, IsOw env j e → σ[j]? ≠ some (some (.ref p))) (nx : ∀ q ∈ B.X, q.1 ≠ p) (ho : Own K F H p d) : Sl K B F H (σ.set i (some (.ref p))) (env.set i (.ow d)) := by
  have hs : i < σ.length := S.len ▸ hi
  have ow' : ∀ {j : Nat} {x : D}, IsOw (env.set i (.ow d)) j x → (j = i ∧ x = d) ∨ (j ≠ i ∧ IsOw env j x) := fun {j x} q => by
    rcases q with q | q
    · rcases set_other hi q with ⟨a, z⟩ | ⟨a, b⟩
      · cases z; exact .inl ⟨a, rfl⟩
      · exact .inr ⟨a, .inl b⟩
    · rcases set_other hi q with ⟨_, z⟩ | ⟨a, b⟩
      · cases z
      · exact .inr ⟨a, .inr b⟩
  refine ⟨S.fh, by simpa using S.len, fun j x q => ?_, fun j x q => ?_, fun j k x y p' a b c d => ?_, fun q hq => ?_, S.f0, S.nw, S.kp, S.lc, fun q hq => ?_, S.lk, fun j s y q => by
    obtain ⟨hj, q⟩ := set_tr hi (fun _ _ => ⟨(by intro z; cases z), (by intro z; cases z)⟩) q
    rw [sset_other hj]; exact S.tr j s y q, S.mr, S.gv, S.kt, S.tb⟩
  · rcases set_other hi q with ⟨rfl, z⟩ | ⟨a, b⟩
    · cases z
    · rw [sset_other a]
      exact S.fz j x b
  · rcases ow' q with ⟨rfl, rfl⟩ | ⟨hj, q⟩
    · exact ⟨p, by rw [List.getElem?_set_self hs], n, ho, .inl n0⟩
    · rw [sset_other hj]
      exact S.own j x q
  · rcases ow' a with ⟨ha, _⟩ | ⟨hj, a⟩
    · rcases ow' b with ⟨hb, _⟩ | ⟨hk, b⟩
      · rw [ha, hb]
      · rw [sset_other hk] at d
        rw [ha, List.getElem?_set_self hs] at c
        cases c
        exact absurd d (no k y b)
    · rcases ow' b with ⟨hb, _⟩ | ⟨hk, b⟩
      · rw [sset_other hj] at c
        rw [hb, List.getElem?_set_self hs] at d
        cases d
        exact absurd c (no j x a)
      · rw [sset_other hj] at c
        rw [sset_other hk] at d
        exact S.ap j k x y p' a b c d
  · obtain ⟨⟨x, hx⟩, h2⟩ := S.pm q hq
    have : q.1 ≠ i := by
      rintro z
      rw [z] at hx
      exact np x hx
    unfold IsPw
    rw [List.getElem?_set_ne (Ne.symm this), sset_other this]
    exact ⟨⟨x, hx⟩, h2⟩
  · obtain ⟨g1, g2, g3, g4⟩ := S.hx q hq
    refine ⟨g1, g2, g3, fun j x h => ?_⟩
    rcases ow' h with ⟨rfl, _⟩ | ⟨hj, h⟩
    · rw [List.getElem?_set_self hs]
      intro z
      cases z
      exact nx q hq rfl
    · rw [sset_other hj]
      exact g4 j x h
/-- a name's own object is changed -/
theorem Sl.chg (S : Sl K B F H σ env) {i : Nat} {p : Addr} {d d' : D} {o : HO} {x : Sv} (q : IsOw env i d) (hp : σ[i]? = some (some (.ref p))) (hx : (env[i]? = some (.ow d) ∧ x = .ow d') ∨ (env[i]? = some (.pw d) ∧ x = .pw d')) (ho : Own K F (upd H p o) p d') : Sl K B F (upd H p o) σ (env.set i x) := by
  obtain ⟨p', h1, h2, h3, h4⟩ := S.own i d q
  rw [hp] at h1; cases h1
  obtain ⟨o', ho', _⟩ := h3.some
  have hi : i < env.length := by
    rcases q with q | q <;> exact (List.getElem?_eq_some_iff.mp q).1
  have ow' : ∀ {j : Nat} {y : D}, IsOw (env.set i x) j y → (j = i ∧ y = d') ∨ (j ≠ i ∧ IsOw env j y) := fun {j y} z => by
    rcases z with z | z
    · rcases set_other hi z with ⟨a, w⟩ | ⟨a, b⟩
      · rcases hx with ⟨_, hx⟩ | ⟨_, hx⟩
        · rw [hx] at w; cases w; exact .inl ⟨a, rfl⟩
        · rw [hx] at w; cases w
      · exact .inr ⟨a, .inl b⟩
    · rcases set_other hi z with ⟨a, w⟩ | ⟨a, b⟩
      · rcases hx with ⟨_, hx⟩ | ⟨_, hx⟩
        · rw [hx] at w; cases w
        · rw [hx] at w; cases w; exact .inl ⟨a, rfl⟩
      · exact .inr ⟨a, .inr b⟩
  have owI : ∀ {j : Nat} {y : D}, IsOw (env.set i x) j y → ∃ z, IsOw env j z := fun {j y} z => by
    rcases ow' z with ⟨rfl, _⟩ | ⟨_, b⟩
    · exact ⟨_, q⟩
    · exact ⟨_, b⟩
  refine ⟨fun a u e => ?_, by simpa using S.len, fun j y z => ?_, fun j y z => ?_, fun j k y w p' a b c e => ?_, fun r hr => ?_, S.f0, S.nw, fun r u a b c g9 => ?_, fun r hr => ?_, fun r hr => ?_, fun a ob u e h => S.lk a ob u e (by
    have ne : a ≠ p := by
      rintro rfl
      rw [h2] at e; cases e
    rw [upd_ne ne] at h; exact h), fun j s y z => by
      obtain ⟨_, z⟩ := set_tr hi (fun s y => by rcases hx with ⟨_, hx⟩ | ⟨_, hx⟩ <;> (rw [hx]; exact ⟨(by intro z; cases z), (by intro z; cases z)⟩)) z
      obtain ⟨v, L, g1, g2, g3, g4⟩ := S.tr j s y z
      exact ⟨v, L, g1, g2, g3, fun q hq => ⟨by rw [upd_ne (ne_of_none (g4 q hq).2 h2)]; exact (g4 q hq).1, (g4 q hq).2⟩⟩, S.mr, fun a g => ⟨by
      by_cases z : a = p
      · subst z; rw [upd_same]; exact fun z => nomatch z
      · rw [upd_ne z]; exact (S.gv a g).1, (S.gv a g).2⟩, fun a ks h => by
      by_cases z : a = p
      · subst z; rw [upd_same] at h; exact (ho.notup (by rw [upd_same]; exact h)).elim
      · rw [upd_ne z] at h; exact S.kt a ks h, ⟨tabs_chg S.tb.now ho' (h3.ntc ho'), S.tb.at0, S.tb.nf⟩⟩
  · have ne : a ≠ p := by
      rintro rfl
      rw [h2] at e; cases e
    rw [upd_ne ne]
    exact S.fh a u e
  · rcases set_other hi z with ⟨_, w⟩ | ⟨a, b⟩
    · rcases hx with ⟨_, hx⟩ | ⟨_, hx⟩ <;> (rw [hx] at w; cases w)
    · exact S.fz j y b
  · rcases ow' z with ⟨rfl, rfl⟩ | ⟨hj, z⟩
    · exact ⟨p, hp, h2, ho, h4⟩
    · obtain ⟨r, g1, g2, g3, g4⟩ := S.own j y z
      have ne : r ≠ p := by
        rintro rfl
        exact hj (S.ap j i y d r z q g1 hp)
      exact ⟨r, g1, g2, g3.mono (Sub.refl _) fun u hu => by rw [upd_ne ne]; exact hu, g4⟩
  · obtain ⟨_, a⟩ := owI a
    obtain ⟨_, b⟩ := owI b
    exact S.ap j k _ _ p' a b c e
  · obtain ⟨⟨y, hy⟩, h5⟩ := S.pm r hr
    refine ⟨?_, h5⟩
    by_cases e : r.1 = i
    · rcases hx with ⟨g, _⟩ | ⟨_, hx⟩
      · unfold IsPw at hy
        rw [e, g] at hy
        rcases hy with hy | ⟨_, _, _, hy⟩ <;> cases hy
      · exact ⟨d', .inl (by rw [e, List.getElem?_set_self hi, hx])⟩
    · exact ⟨y, by unfold IsPw; rw [List.getElem?_set_ne (Ne.symm e)]; exact hy⟩
  · have ne : r ≠ p := by
      rintro rfl
      rcases h4 with h4 | ⟨j, hj⟩
      · rw [h4] at a; cases a
      · exact b j hj
    rw [upd_ne ne]
    exact S.kp r u a b c g9
  · obtain ⟨g1, g2⟩ := S.lc r hr
    exact ⟨by rw [upd_ne (fun z => by rw [z, h2] at g2; cases g2)]; exact g1, g2⟩
  · obtain ⟨g1, g2, g3, g4⟩ := S.hx r hr
    have ne : r.1 ≠ p := fun z => g4 i d q (by rw [z]; exact hp)
    exact ⟨by rw [upd_ne ne]; exact g1, g2, g3, fun j y h => by
      obtain ⟨_, h⟩ := owI h
      exact g4 j _ h⟩
end
/-- an exception as data: its class's name, its one field -/
structure Ex where
  c : Str
  fld : Option (Str × D)
/-- whither raised things go -/
structure Wh where
  W : WX
def ExOk (K : Fg) (H0 : Hp) (X0 : List (Addr × HO)) (F H : Hp) (x : Ex) (cls : Value) (dd : Option Addr) : Prop := (∃ C, K.mg x.c = some (.ref C) ∧ cls = .ref C) ∧ match x.fld with
  | none => dd = none
  | some (f, d) => ∃ a v, dd = some a ∧ H0 a = none ∧ (∀ q ∈ X0, q.1 ≠ a) ∧ F a = none ∧ H a = some (.xd [(f, v)]) ∧ Dt K F v d
inductive Rs where
  | nx (e : En) | bk (e : En) | ct (e : En) | rt (d : D) (e : En) | rn (d : D) (e : En) | rm (s : Sh) (d : D) (e : En) | xx (x : Ex) (e : En)
abbrev Sf := En → Option Rs
def EndOk (K : Fg) (wh : Wh) (B : Bs) (F : Hp) (E : Ends) : Rs → Prop
  | .nx e => ∀ σ' F' H', Sl K B F' H' σ' e → Sub F F' → E.nx σ' H'
  | .bk e => ∀ σ' F' H', Sl K B F' H' σ' e → Sub F F' → E.bk σ' H'
  | .ct e => ∀ σ' F' H', Sl K B F' H' σ' e → Sub F F' → E.ct σ' H'
  | .rt d e => ∀ v σ' F' H', Sl K B F' H' σ' e → Sub F F' → Dt K F' v d → E.rt v H'
  | .rn d e => ∀ p σ' F' H', Sl K B F' H' σ' e → Sub F F' → F' p = none → B.H0 p = none → Own K F' H' p d → E.rt (.ref p) H'
  | .rm s d e => ∀ v L σ' F' H', Sl K B F' H' σ' e → Sub F F' → Tr K F' s v d L → Ndp L → (∀ q ∈ L, H' q.1 = some q.2 ∧ F' q.1 = none ∧ B.H0 q.1 = none) → E.rt v H'
  | .xx x e => ∀ cls dd σ' F' H', Sl K B F' H' σ' e → Sub F F' → ExOk K B.H0 B.X F' H' x cls dd → wh.W cls dd σ' H'
theorem EndOk.mono {wh : Wh} {K : Fg} {B : Bs} {F G : Hp} {E : Ends} {r : Rs} (h : EndOk K wh B F E r) (s : Sub F G) : EndOk K wh B G E r := by
  cases r with
  | nx e => exact fun σ' F' H' S s' => h σ' F' H' S (s.trans s')
  | bk e => exact fun σ' F' H' S s' => h σ' F' H' S (s.trans s')
  | ct e => exact fun σ' F' H' S s' => h σ' F' H' S (s.trans s')
  | rt d e => exact fun v σ' F' H' S s' => h v σ' F' H' S (s.trans s')
  | rn d e => exact fun p σ' F' H' S s' => h p σ' F' H' S (s.trans s')
  | rm s0 d e => exact fun v L σ' F' H' S s' => h v L σ' F' H' S (s.trans s')
  | xx x e => exact fun cls dd σ' F' H' S s' => h cls dd σ' F' H' S (s.trans s')
def tS (K : Fg) (wh : Wh) (f : Sf) : TS := fun E σ H => ∃ B F env r, Sl K B F H σ env ∧ f env = some r ∧ EndOk K wh B F E r
def sNx : Sf := fun env => some (.nx env)
def sq (f g : Sf) : Sf := fun env => (f env).bind fun r => match r with
  | .nx e => g e
  | r => some r
def sIf (c : Bf) (f g : Sf) : Sf := fun env => (c env).bind fun r => if r.1 = true then f r.2 else g r.2
def sSet (i : Nat) (f : Df) : Sf := fun env => (f env).bind fun r => (put i (.fz r.1) r.2).bind fun e => some (.nx e)
def sSetN (i : Nat) (f : Df) : Sf := fun env => (f env).bind fun r => (put i (.ow r.1) r.2).bind fun e => some (.nx e)
def sDrop (f : Df) : Sf := fun env => (f env).bind fun r => some (.nx r.2)
def sRet (f : Df) : Sf := fun env => (f env).bind fun r => some (.rt r.1 r.2)
def sRetN (f : Df) : Sf := fun env => (f env).bind fun r => some (.rn r.1 r.2)
/-- one's own object is handed back -/
def sRetO (i : Nat) : Sf := fun env => match env[i]? with
  | some (.ow d) => some (.rn d env)
  | _ => none
section
variable {X : Cx} {Tb : TbT} {e : Expr} {st : Stmt} {rest : List Stmt} {pos : Pos}
theorem ds_nil {wh : Wh} : PSs X [] (tS (X.kg Tb) wh sNx) := PSsi pss_nil fun E σ H ⟨B, F, env, r, S, ef, k⟩ => by
  cases ef
  exact k σ F H S (Sub.refl F)
theorem ds_cons {wh : Wh} {f g : Sf} (h1 : PS X st (tS (X.kg Tb) wh f)) (h2 : PSs X rest (tS (X.kg Tb) wh g)) : PSs X (st :: rest) (tS (X.kg Tb) wh (sq f g)) := PSsi (pss_cons h1 h2) fun E σ H ⟨B, F, env, r, S, ef, k⟩ => by
  obtain ⟨r1, q, ef⟩ := bd ef
  refine ⟨B, F, env, r1, S, q, ?_⟩
  cases r1 with
  | nx e1 => exact fun σ' F' H' S' s' => ⟨B, F', e1, r, S', ef, k.mono s'⟩
  | bk e1 => cases ef; exact k
  | ct e1 => cases ef; exact k
  | rt d e1 => cases ef; exact k
  | rn d e1 => cases ef; exact k
  | rm s0 d e1 => cases ef; exact k
  | xx x e1 => cases ef; exact k
theorem ds_one {wh : Wh} {f : Sf} (h1 : PS X st (tS (X.kg Tb) wh f)) : PSs X [st] (tS (X.kg Tb) wh f) := pss_one h1
theorem dS_if {wh : Wh} {c : Expr} {a b : List Stmt} {t : Bf} {f g : Sf} (hc : PT X c (tT (X.kg Tb) t)) (ha : PSs X a (tS (X.kg Tb) wh f)) (hb : PSs X b (tS (X.kg Tb) wh g)) : PS X (.If c a b pos) (tS (X.kg Tb) wh (sIf t f g)) := PSi (ps_if hc ha hb) fun E σ H ⟨B, F, env, r, S, ef, k⟩ => by
  obtain ⟨⟨c, e1⟩, q, ef⟩ := bd ef
  refine ⟨B, F, env, c, e1, S, q, fun F1 H1 S1 s1 => ?_⟩
  cases c with
  | true =>
    rw [if_pos rfl]
    rw [if_pos rfl] at ef
    exact ⟨B, F1, e1, r, S1, ef, k.mono s1⟩
  | false =>
    rw [if_neg Bool.false_ne_true]
    rw [if_neg Bool.false_ne_true] at ef
    exact ⟨B, F1, e1, r, S1, ef, k.mono s1⟩
theorem dS_drop {wh : Wh} {f : Df} (he : PE X e (tD (X.kg Tb) f)) (hs : swapsWith e none pos.line X.env = pure false := by rfl) : PS X (.Expr e pos) (tS (X.kg Tb) wh (sDrop f)) := PSi (ps_expr he hs) fun E σ H ⟨B, F, env, r, S, ef, k⟩ => by
  obtain ⟨⟨d, e1⟩, q, ef⟩ := bd ef
  cases ef
  exact ⟨B, F, env, d, e1, S, q, fun v F' H' S' s' _ => k σ F' H' S' s'⟩
theorem dS_ret {wh : Wh} {f : Df} (he : PE X e (tD (X.kg Tb) f)) : PS X (.Return (some e) pos) (tS (X.kg Tb) wh (sRet f)) := PSi (ps_ret he) fun E σ H ⟨B, F, env, r, S, ef, k⟩ => by
  obtain ⟨⟨d, e1⟩, q, ef⟩ := bd ef
  cases ef
  exact ⟨B, F, env, d, e1, S, q, fun v F' H' S' s' hd => k v σ F' H' S' s' hd⟩
theorem dS_retN {wh : Wh} {f : Df} (he : PE X e (tN (X.kg Tb) f)) : PS X (.Return (some e) pos) (tS (X.kg Tb) wh (sRetN f)) := PSi (ps_ret he) fun E σ H ⟨B, F, env, r, S, ef, k⟩ => by
  obtain ⟨⟨d, e1⟩, q, ef⟩ := bd ef
  cases ef
  exact ⟨B, F, env, d, e1, S, q, fun p F' H' S' s' n n0 _ _ ho => k p σ F' H' S' s' n n0 ho⟩
theorem dS_retO {wh : Wh} (i : Nat) {x : Str} {p : Pos} (hN : X.N[i]? = some x := by rfl) (hv : Vis X.env.scope x := by first | exact Or.inl rfl | exact Or.inr (Or.inl rfl) | exact Or.inr (Or.inr rfl)) (hd : (x == ("__debug__" : Str)) = false := by decide)
    (hcd : (x == ("__classdict__" : Str)) = false := by decide) : PS X (.Return (some (.Name x p)) pos) (tS (X.kg Tb) wh (sRetO i)) := PSi (ps_ret (pe_var hN hv hd hcd)) fun E σ H ⟨B, F, env, r, S, ef, k⟩ => by
  unfold sRetO at ef
  split at ef
  · rename_i d q
    cases ef
    obtain ⟨p, h1, h2, h3, h4⟩ := S.own i d (.inl q)
    refine ⟨_, h1, k p σ F H S (Sub.refl F) h2 ?_ h3⟩
    rcases h4 with h4 | ⟨j, hj⟩
    · exact h4
    · exact (S.pmOw q h1 hj).elim
  · cases ef
theorem dS_set {wh : Wh} {i : Nat} {x : Str} {f : Df} {pos' : Pos} (hN : X.N.Nodup) (he : PE X e (tD (X.kg Tb) f)) (hi : X.N[i]? = some x := by rfl) (hx : Loc X.env.scope x := by first | exact Or.inl rfl | exact Or.inr rfl) (hs : swapsWith e (some (.Name x pos')) pos.line X.env = pure false := by rfl) (hf : X.fn x = true ∨ X.env.scope.names.lookup x = some .local := by first | exact .inl rfl | exact .inr rfl | assumption) :
    PS X (.Assign [.Name x pos'] e pos) (tS (X.kg Tb) wh (sSet i f)) := PSi (ps_set hN hi hx he hs hf) fun E σ H ⟨B, F, env, r, S, ef, k⟩ => by
  obtain ⟨⟨d, e1⟩, q, ef⟩ := bd ef
  obtain ⟨e2, q2, ef⟩ := bd ef
  cases ef
  obtain ⟨hi', np, rfl⟩ := put_inv q2
  exact ⟨B, F, env, d, e1, S, q, fun v F' H' S' s' hd => k _ F' H' (S'.set hi' np hd) s'⟩
theorem dS_setN {wh : Wh} {i : Nat} {x : Str} {f : Df} {pos' : Pos} (hN : X.N.Nodup) (he : PE X e (tN (X.kg Tb) f)) (hi : X.N[i]? = some x := by rfl) (hx : Loc X.env.scope x := by first | exact Or.inl rfl | exact Or.inr rfl) (hs : swapsWith e (some (.Name x pos')) pos.line X.env = pure false := by rfl) (hf : X.fn x = true ∨ X.env.scope.names.lookup x = some .local := by first | exact .inl rfl | exact .inr rfl | assumption) :
    PS X (.Assign [.Name x pos'] e pos) (tS (X.kg Tb) wh (sSetN i f)) := PSi (ps_set hN hi hx he hs hf) fun E σ H ⟨B, F, env, r, S, ef, k⟩ => by
  obtain ⟨⟨d, e1⟩, q, ef⟩ := bd ef
  obtain ⟨e2, q2, ef⟩ := bd ef
  cases ef
  obtain ⟨hi', np, rfl⟩ := put_inv q2
  exact ⟨B, F, env, d, e1, S, q, fun p F' H' S' s' n n0 no nx ho => k _ F' H' (S'.setO hi' np n n0 no nx ho) s'⟩
end
abbrev Tg := D → En → Option En
/-- the slots but ts are as they were -/
def But (ts : List Nat) (σ σ' : L2.St) : Prop := σ'.length = σ.length ∧ ∀ j, j ∉ ts → σ'[j]? = σ[j]?
def gD (K : Fg) (t : Tg) (ts : List Nat) : TG := fun v σ H Q => ∃ B F env d env', Sl K B F H σ env ∧ Dt K F v d ∧ t d env = some env' ∧ ∀ σ' F' H', Sl K B F' H' σ' env' → Sub F F' → But ts σ σ' → Q σ' H'
def gsD (K : Fg) (t : List D → En → Option En) (ts : List Nat) : TGs := fun vs σ H Q => ∃ B F env ds env', Sl K B F H σ env ∧ DtA K F vs ds ∧ t ds env = some env' ∧ ∀ σ' F' H', Sl K B F' H' σ' env' → Sub F F' → But ts σ σ' → Q σ' H'
def tgName (i : Nat) : Tg := fun d env => put i (.fz d) env
def tgsNil : List D → En → Option En := fun ds env => match ds with
  | [] => some env
  | _ => none
def tgsCons (t : Tg) (r : List D → En → Option En) : List D → En → Option En := fun ds env => match ds with
  | d :: ds => (t d env).bind fun e => r ds e
  | [] => none
def tgTup (r : List D → En → Option En) : Tg := fun d env => match d with
  | .tuple ds => r ds env
  | _ => none
section
variable {X : Cx} {Tb : TbT} {e : Expr} {es : List Expr} {pos : Pos}
theorem PGi {t u : TG} (h : PG X e t) (le : ∀ v σ H Q, u v σ H Q → t v σ H Q) : PG X e u := ⟨fun pins s σ H v w Q I r q => h.run pins s σ H v w Q I r (le v σ H Q q)⟩
theorem PGsi {t u : TGs} (h : PGs X es t) (le : ∀ v σ H Q, u v σ H Q → t v σ H Q) : PGs X es u := ⟨fun pins s σ H v w Q I r q => h.run pins s σ H v w Q I r (le v σ H Q q)⟩
theorem dg_name (i : Nat) {x : Str} (hN : X.N.Nodup) (hi : X.N[i]? = some x := by rfl) (hx : Loc X.env.scope x := by first | exact Or.inl rfl | exact Or.inr rfl) (hf : X.fn x = true ∨ X.env.scope.names.lookup x = some .local := by first | exact .inl rfl | exact .inr rfl | assumption) : PG X (.Name x pos) (gD (X.kg Tb) (tgName i) [i]) :=
  PGi (pg_name hN hi hx hf) fun v σ H Q ⟨B, F, env, d, env', S, hd, et, k⟩ => by
    obtain ⟨hi', np, rfl⟩ := put_inv et
    exact k _ F H (S.set hi' np hd) (Sub.refl F) ⟨by simp, fun j hj => sset_other (by simpa using hj)⟩
theorem dgs_nil : PGs X [] (gsD (X.kg Tb) tgsNil []) := PGsi pgs_nil fun v σ H Q ⟨B, F, env, ds, env', S, hd, et, k⟩ => by
  cases hd with
  | nil => cases et; exact ⟨rfl, k σ F H S (Sub.refl F) ⟨rfl, fun _ _ => rfl⟩⟩
  | cons _ _ => cases et
theorem dgs_cons {t : Tg} {r : List D → En → Option En} {ts us : List Nat} (h1 : PG X e (gD (X.kg Tb) t ts)) (h2 : PGs X es (gsD (X.kg Tb) r us)) (hs : (assignEach (e :: es) X.env).map (·.2) = assign e X.env :: (assignEach es X.env).map (·.2) := by rfl) : PGs X (e :: es) (gsD (X.kg Tb) (tgsCons t r) (ts ++ us)) :=
  PGsi (pgs_cons h1 h2 hs) fun v σ H Q ⟨B, F, env, ds, env', S, hd, et, k⟩ => by
    cases hd with
    | nil => cases et
    | cons h hd =>
      obtain ⟨e1, q, et⟩ := bd et
      exact ⟨_, _, rfl, B, F, env, _, e1, S, h, q, fun σ1 F1 H1 S1 s1 b1 => ⟨B, F1, e1, _, env', S1, hd.mono s1, et, fun σ2 F2 H2 S2 s2 b2 => k σ2 F2 H2 S2 (s1.trans s2) ⟨b2.1.trans b1.1, fun j hj => (b2.2 j fun z => hj (List.mem_append_right _ z)).trans (b1.2 j fun z => hj (List.mem_append_left _ z))⟩⟩⟩
/-- how many a row of targets takes -/
def Takes' (r : List D → En → Option En) (n : Nat) : Prop := ∀ ds env e, r ds env = some e → ds.length = n
theorem takes_nil : Takes' tgsNil 0 := fun ds env e h => by
  cases ds with
  | nil => rfl
  | cons _ _ => cases h
theorem takes_cons {t : Tg} {r : List D → En → Option En} {n : Nat} (h : Takes' r n) : Takes' (tgsCons t r) (n + 1) := fun ds env e q => by
  cases ds with
  | nil => cases q
  | cons d ds =>
    obtain ⟨e1, _, q⟩ := bd q
    exact congrArg Nat.succ (h ds e1 e q)
theorem dg_tup {k n : Nat} {r : List D → En → Option En} {ts : List Nat} (hc : X.calm = true) (h : PGs X es (gsD (X.kg Tb) r ts)) (ht : Takes' r n)
    (hn : (assignEach es X.env).length = n := by rfl) (hst : (assignEach es X.env).findIdx? (·.1) = none := by rfl) : PG X (.Tuple es k pos) (gD (X.kg Tb) (tgTup r) ts) :=
  PGi (pg_tup hc h hn hst) fun v σ H Q ⟨B, F, env, d, env', S, hd, et, k⟩ => by
    unfold tgTup at et
    split at et
    · rename_i ds
      cases hd with
      | tup hq hd =>
        refine ⟨_, _, rfl, SqT.of (S.fh.tup hq), ?_, B, F, env, ds, env', S, hd, et, k⟩
        rw [hd.length]
        exact ht ds env env' et
    · cases et
/-- several names at once -/
def sUnp (t : Tg) (f : Df) : Sf := fun env => (f env).bind fun r => (t r.1 r.2).bind fun e => some (.nx e)
theorem dS_unp {wh : Wh} {tg : Expr} {t : Tg} {ts : List Nat} {f : Df} (he : PE X e (tD (X.kg Tb) f)) (hg : PG X tg (gD (X.kg Tb) t ts)) (hs : swapsWithSole [tg] e pos.line X.env = pure false := by rfl) (hw : swappedStores [tg] e X.env = pure none := by rfl)
    (h1 : (assignEach [tg] X.env).map (·.2) = [assign tg X.env] := by rfl) : PS X (.Assign [tg] e pos) (tS (X.kg Tb) wh (sUnp t f)) := PSi (ps_asg he hg hs hw h1) fun E σ H ⟨B, F, env, r, S, ef, k⟩ => by
  obtain ⟨⟨d, e1⟩, q, ef⟩ := bd ef
  obtain ⟨e2, q2, ef⟩ := bd ef
  cases ef
  exact ⟨B, F, env, d, e1, S, q, fun v F' H' S' s' hd => ⟨B, F', e1, d, e2, S', hd, q2, fun σ2 F2 H2 S2 s2 _ => k σ2 F2 H2 S2 (s'.trans s2)⟩⟩
end
end DL
namespace DL
open PySem L2
theorem after_gm {K : Fg} {B : Bs} {F H F' : Hp} {σ : L2.St} {env env' : En} (S : Sl K B F H σ env) (s : Sub F F') (nw : ∀ p, F p = none → F' p ≠ none → H p = none) (hpw : ∀ (j : Nat) (d : D), IsPw env j d → ∃ d', IsPw env' j d') (hmk : ∀ a m, F a = some (.own m) → F' a = some (.own m)) (hmn : ∀ a m, F' a = some (.own m) → F a = some (.own m)) {a : Addr} (g : B.G a) :
    F' a = none ∨ (∃ j p, (j, p) ∈ B.M ∧ F' a = some (.own j)) ∨ (B.Z a ∧ ∀ m, F' a ≠ some (.own m)) := by
  have no : F a = none → F' a = none := fun h => by
    cases q : F' a with
    | none => rfl
    | some u => exact absurd (nw a h (by rw [q]; exact fun z => nomatch z)) (S.gv a g).1
  rcases (S.gv a g).2.2.2 with z | ⟨j, p, hj, z⟩ | ⟨z, w⟩
  · exact .inl (no z)
  · exact .inr (.inl ⟨j, p, hj, hmk _ _ z⟩)
  · exact .inr (.inr ⟨z, fun m h => w m (hmn _ _ h)⟩)
/-- behind something that changed the objects Ch, each one's own -/
theorem Sl.after {K : Fg} {B : Bs} {F H F' H' : Hp} {σ : L2.St} {env env' : En} (S : Sl K B F H σ env) (fh : Lk F' H') (s : Sub F F') (nw : ∀ p, F p = none → F' p ≠ none → H p = none ∧ ∀ ob u, F' p = some u → H' p ≠ some (.frz ob u)) (Ch : Addr → Prop)
    (kp : ∀ p o, H p = some o → ¬ Ch p → ¬ K.tb p → H' p = some o) (ln : env'.length = env.length) (hfz : ∀ (j : Nat) (d : D), env'[j]? = some (.fz d) → env[j]? = some (.fz d))
    (how : ∀ (j : Nat) (d : D), IsOw env' j d → ∃ d0, IsOw env j d0 ∧ ∀ p, σ[j]? = some (some (.ref p)) → (d = d0 ∧ ¬ Ch p) ∨ Own K F' H' p d)
    (hpw : ∀ (j : Nat) (d : D), IsPw env j d → ∃ d', IsPw env' j d') (hch : ∀ p, Ch p → (∃ j d, IsOw env j d ∧ σ[j]? = some (some (.ref p))) ∧ H' p ≠ none)
    (htr : ∀ (j : Nat) (s : Sh) (d : D), IsTr env' j s d → IsTr env j s d) (hmk : ∀ a m, F a = some (.own m) → F' a = some (.own m)) (hmn : ∀ a m, F' a = some (.own m) → F a = some (.own m)) (hkt : KT F' H') (htb : LamX.Tabs K.T H') : Sl K B F' H' σ env' := by
  have owF : ∀ {j : Nat} {d : D} {p : Addr}, IsOw env j d → σ[j]? = some (some (.ref p)) → F' p = none := fun {j d p} o e => by
    obtain ⟨q, h1, h2, h3, _⟩ := S.own j d o
    rw [e] at h1; cases h1
    cases q : F' p with
    | none => rfl
    | some u =>
      obtain ⟨w, hw, _⟩ := h3.some
      have := (nw p h2 (by rw [q]; exact fun z => nomatch z)).1
      rw [this] at hw; cases hw
  refine ⟨fh, by rw [ln]; exact S.len, fun j d e => ?_, fun j d e => ?_, fun i j d e p a b c f => ?_, fun q hq => ?_, S.f0.trans s, fun p a b => ?_, fun p o a b c g9 => ?_, fun p hp => ?_, fun q hq => ?_, fun a ob u e h => ?_, fun j s' d e => ?_, fun a m e => S.mr a m (hmn a m e), fun a g => ⟨?_, (S.gv a g).2.1, (S.gv a g).2.2.1, after_gm S s (fun p h h' => (nw p h h').1) hpw hmk hmn g⟩, hkt, ⟨htb, S.tb.at0, S.tb.nf⟩⟩
  rotate_right
  · by_cases hc : Ch a
    · exact (hch a hc).2
    · cases q : H a with
      | none => exact absurd q (S.gv a g).1
      | some o =>
        by_cases ht : K.tb a
        · obtain ⟨ps, z⟩ := tabs_at htb ht
          rw [z]; exact fun z => nomatch z
        · rw [kp a o q hc ht]; exact fun z => nomatch z
  rotate_right
  · obtain ⟨v, L, g1, g2, g3, g4⟩ := S.tr j s' d (htr j s' d e)
    refine ⟨v, L, g1, g2.mono s, g3, fun q hq => ⟨kp _ _ (g4 q hq).1 (fun hc => ?_) (S.ntF (g4 q hq).2), hmk _ _ (g4 q hq).2⟩⟩
    obtain ⟨⟨i, d', o1, o2⟩, _⟩ := hch _ hc
    obtain ⟨p', h1, h2, _⟩ := S.own i d' o1
    rw [o2] at h1; cases h1
    rw [(g4 q hq).2] at h2; cases h2
  rotate_right
  · cases q : F a with
    | none => exact absurd h ((nw a q (by rw [e]; exact fun z => nomatch z)).2 ob u e)
    | some u' =>
      obtain rfl : u = u' := by
        cases hm : Mk u' with
        | false =>
          have e' := s _ _ q hm
          rw [e] at e'; cases e'; rfl
        | true =>
          cases u' <;> cases hm
          rw [hmk _ _ q] at e; cases e; rfl
      have nc : ¬ Ch a := fun hc => by
        obtain ⟨⟨j, d, o1, o2⟩, _⟩ := hch _ hc
        obtain ⟨p', h1, h2, _⟩ := S.own j d o1
        rw [o2] at h1; cases h1
        rw [h2] at q; cases q
      rcases S.fh a _ q with g | ⟨_, ob', g⟩ | ⟨_, g⟩
      · have := kp _ _ g nc (S.ntF q)
        rw [h] at this
        exact absurd (Option.some.inj this).symm frz_ne
      · have := kp _ _ g nc (S.ntF q)
        rw [h] at this; cases this
        exact S.lk a ob u q g
      · cases q' : H a with
        | none => exact absurd q' g
        | some w =>
          have := kp _ _ q' nc (S.ntF q)
          rw [h] at this; cases this
          exact S.lk a ob u q q'
  · obtain ⟨v, h1, h2⟩ := S.fz j d (hfz j d e)
    exact ⟨v, h1, h2.mono s⟩
  · obtain ⟨d0, o, hd⟩ := how j d e
    obtain ⟨p, h1, h2, h3, h4⟩ := S.own j d0 o
    refine ⟨p, h1, owF o h1, ?_, h4⟩
    rcases hd p h1 with ⟨rfl, nc⟩ | h
    · exact h3.mono s fun u hu => kp p u hu nc (S.ntO hu (h3.ntc hu))
    · exact h
  · obtain ⟨_, a, _⟩ := how i d a
    obtain ⟨_, b, _⟩ := how j e b
    exact S.ap i j _ _ p a b c f
  · obtain ⟨⟨d, h1⟩, h2⟩ := S.pm q hq
    exact ⟨hpw _ d h1, h2⟩
  · by_cases h : F p = none
    · exact S.fresh (nw p h b).1
    · exact S.nw p a h
  · refine kp p o (S.kp p o a b c g9) (fun hc => ?_) fun z => g9 (S.tb.nf p z).2
    obtain ⟨⟨j, d, o1, o2⟩, _⟩ := hch p hc
    obtain ⟨p', h1, _, _, h4⟩ := S.own j d o1
    rw [o2] at h1; cases h1
    rcases h4 with h4 | ⟨k, hk⟩
    · rw [h4] at a; cases a
    · exact b k hk
  · obtain ⟨g1, g2⟩ := S.lc p hp
    refine ⟨kp _ _ g1 (fun hc => ?_) (S.ntF g2), ?_⟩
    · obtain ⟨⟨j, d, o1, o2⟩, _⟩ := hch _ hc
      obtain ⟨p', h1, h2, _⟩ := S.own j d o1
      rw [o2] at h1; cases h1
      rw [h2] at g2; cases g2
    · cases hm : Mk p.2.2 with
      | false => exact s _ _ g2 hm
      | true =>
        revert g2 hm
        cases p.2.2 <;> intro g2 hm <;> cases hm
        exact hmk _ _ g2
  · obtain ⟨g1, g2, g3, g4⟩ := S.hx q hq
    have nc : ¬ Ch q.1 := fun hc => by
      obtain ⟨⟨j, d, o1, o2⟩, _⟩ := hch _ hc
      exact g4 j d o1 o2
    refine ⟨kp _ _ g1 nc (S.nt0 g3), ?_, g3, fun j d o => ?_⟩
    · cases z : F' q.1 with
      | none => rfl
      | some u =>
        have := (nw q.1 g2 (by rw [z]; exact fun w => nomatch w)).1
        rw [this] at g1; cases g1
    · obtain ⟨d0, o, _⟩ := how j d o
      exact g4 j d0 o
/-- behind something that changed nothing -/
theorem Sl.extT {K : Fg} {B : Bs} {F H F' H' : Hp} {σ : L2.St} {env : En} (S : Sl K B F H σ env) (fh : Lk F' H') (s : Sub F F') (nw : ∀ p, F p = none → F' p ≠ none → H p = none ∧ ∀ ob u, F' p = some u → H' p ≠ some (.frz ob u)) (kp : ∀ p o, H p = some o → ¬ K.tb p → H' p = some o) (hmk : ∀ a m, F a = some (.own m) → F' a = some (.own m)) (hmn : ∀ a m, F' a = some (.own m) → F a = some (.own m)) (hkt : KT F' H') (htb : LamX.Tabs K.T H') : Sl K B F' H' σ env :=
  S.after fh s nw (fun _ => False) (fun p o e _ => kp p o e) rfl (fun _ _ e => e) (fun j d o => ⟨d, o, fun _ _ => .inl ⟨rfl, fun z => z⟩⟩) (fun j d e => ⟨d, e⟩) (fun _ z => z.elim) (fun _ _ _ e => e) hmk hmn hkt htb
theorem Sl.ext {K : Fg} {B : Bs} {F H F' H' : Hp} {σ : L2.St} {env : En} (S : Sl K B F H σ env) (fh : Lk F' H') (s : Sub F F') (nw : ∀ p, F p = none → F' p ≠ none → H p = none ∧ ∀ ob u, F' p = some u → H' p ≠ some (.frz ob u)) (kp : ∀ p o, H p = some o → H' p = some o) (hmk : ∀ a m, F a = some (.own m) → F' a = some (.own m)) (hmn : ∀ a m, F' a = some (.own m) → F a = some (.own m)) (hkt : KT F' H') : Sl K B F' H' σ env :=
  S.extT fh s nw (fun p o e _ => kp p o e) hmk hmn hkt (tabs_step S.tb.now fun b o e _ => kp b o e)
inductive ArgsOk (K : Fg) (F H : Hp) : Nat → List Bool → List V → List D → List (Nat × Addr) → Prop
  | nil {n : Nat} : ArgsOk K F H n [] [] [] []
  | fz {n : Nat} {fl : List Bool} {v : V} {vs : List V} {d : D} {ds : List D} {M : List (Nat × Addr)} : Dt K F v d → ArgsOk K F H (n + 1) fl vs ds M → ArgsOk K F H n (false :: fl) (v :: vs) (d :: ds) M
  | ow {n : Nat} {fl : List Bool} {p : Addr} {vs : List V} {d : D} {ds : List D} {M : List (Nat × Addr)} : F p = none → Own K F H p d → ArgsOk K F H (n + 1) fl vs ds M → ArgsOk K F H n (true :: fl) (.ref p :: vs) (d :: ds) ((n, p) :: M)
def entry : List Bool → List D → En
  | false :: fl, d :: ds => .fz d :: entry fl ds
  | true :: fl, d :: ds => .pw d :: entry fl ds
  | _, _ => []
def env0 (n : Nat) (fl : List Bool) (ds : List D) : En := entry fl ds ++ List.replicate (n - fl.length) .un
def slotsOf : Nat → List Bool → List Nat
  | _, [] => []
  | n, true :: fl => n :: slotsOf (n + 1) fl
  | n, false :: fl => slotsOf (n + 1) fl
def outsAt : List Nat → En → Option (List D)
  | [], _ => some []
  | i :: r, e => match e[i]? with
    | some (.pw d) => (outsAt r e).bind fun ds => some (d :: ds)
    | _ => none
def OutsOk (K : Fg) (F H : Hp) : List (Nat × Addr) → List D → Prop
  | [], [] => True
  | q :: M, d :: os => (F q.2 = none ∧ Own K F H q.2 d) ∧ OutsOk K F H M os
  | _, _ => False
/-- what a body is worth: arguments, the value and what came of the caller's objects -/
def gOf (n : Nat) (fl : List Bool) (body : Sf) (ds : List D) : Option (D × List D) := if ds.length = fl.length then (body (env0 n fl ds)).bind fun r => match r with
  | .nx e => (outsAt (slotsOf 0 fl) e).bind fun os => some (.none, os)
  | .rt d e => (outsAt (slotsOf 0 fl) e).bind fun os => some (d, os)
  | _ => none else none
/-- the shape of what may be None -/
def shO (s : Sh) : D → Sh
  | .none => .fz
  | _ => s
def gOfN (n : Nat) (fl : List Bool) (body : Sf) (ds : List D) : Option (D × List D) := if ds.length = fl.length then (body (env0 n fl ds)).bind fun r => match r with
  | .rn d e => (outsAt (slotsOf 0 fl) e).bind fun os => some (d, os)
  | _ => none else none
def Apart (M : List (Nat × Addr)) : Prop := ∀ i j p, (i, p) ∈ M → (j, p) ∈ M → i = j
/-- what comes back: something of the others, a new object, a new tree -/
inductive Rk where
  | fz | nw | tr (s : Sh)
def RetOk (K : Fg) (rk : Rk) (H F' H' : Hp) (v : V) (d : D) : Prop := match rk with
  | .nw => ∃ p, v = .ref p ∧ F' p = none ∧ H p = none ∧ Own K F' H' p d
  | .fz => Dt K F' v d
  | .tr s => ∃ L, Tr K F' (shO s d) v d L ∧ Ndp L ∧ ∀ q ∈ L, H' q.1 = some q.2 ∧ F' q.1 = none ∧ H q.1 = none
def NoMk (F : Hp) : Prop := ∀ a m, F a ≠ some (.own m)
/-- what is so of keys' tuples and of tables -/
structure KP (K : Fg) (F H : Hp) : Prop where
  kt : KT F H
  tb : LamX.Tabs K.T H
  nf : ∀ q, K.tb q → F q = none
def spD (K : Fg) (fl : List Bool) (nw : Rk) (g : List D → Option (D × List D)) : Sp := fun vs H Q _ => ∃ F ds d os M, Lk F H ∧ NoMk F ∧ KP K F H ∧ ArgsOk K F H 0 fl vs ds M ∧ Apart M ∧ g ds = some (d, os) ∧
  ∀ v F' H', Lk F' H' → NoMk F' → KP K F' H' → Sub F F' → (∀ p, F p = none → F' p ≠ none → H p = none ∧ ∀ ob u, F' p = some u → H' p ≠ some (.frz ob u)) → (∀ p o, H p = some o → (∀ j, (j, p) ∉ M) → ¬ K.tb p → H' p = some o) → OutsOk K F' H' M os → RetOk K nw H F' H' v d → Q v H'
/-- without the marks -/
def er (F : Hp) : Hp := fun a => match F a with
  | some (.own _) => none
  | x => x
theorem er_no (F : Hp) : NoMk (er F) := fun a m h => by
  unfold er at h
  split at h
  · cases h
  · rename_i n
    exact n m h
theorem er_at {F : Hp} {a : Addr} (h : ∀ m, F a ≠ some (.own m)) : er F a = F a := by
  unfold er
  split
  · rename_i m e; exact absurd e (h m)
  · rfl
theorem er_none {F : Hp} {a : Addr} (h : F a = none) : er F a = none := by rw [er_at (fun m z => by rw [h] at z; cases z)]; exact h
theorem er_sub (F : Hp) : Sub F (er F) := fun a o h m => by
  rw [er_at (fun k z => by rw [h] at z; cases z; cases m)]; exact h
theorem er_some {F : Hp} {a : Addr} {o : HO} (h : er F a = some o) : F a = some o := by
  unfold er at h
  split at h
  · cases h
  · exact h
theorem er_kt {F H : Hp} (k : KT F H) : KT (er F) H := fun a ks h => by
  have := k a ks h
  rw [er_at (fun m z => by rw [this] at z; cases z)]; exact this
theorem Sl.kpE {K : Fg} {B : Bs} {F H : Hp} {σ : L2.St} {env : En} (S : Sl K B F H σ env) : KP K (er F) H := ⟨er_kt S.kt, S.tb.now, fun _ z => er_none (S.tbF z)⟩
theorem er_lk {F H : Hp} (l : Lk F H) : Lk (er F) H := fun a o h => l a o (er_some h)
/-- the marks of F1 over F' -/
def mg (F1 F' : Hp) : Hp := fun a => match F1 a with
  | some (.own m) => some (.own m)
  | _ => F' a
theorem mg_mk {F1 F' : Hp} {a : Addr} {m : Addr} (h : F1 a = some (.own m)) : mg F1 F' a = some (.own m) := by unfold mg; rw [h]
theorem mg_at {F1 F' : Hp} {a : Addr} (h : ∀ m, F1 a ≠ some (.own m)) : mg F1 F' a = F' a := by
  unfold mg
  split
  · rename_i m e; exact absurd e (h m)
  · rfl
theorem mk_or {F : Hp} (a : Addr) : (∃ m, F a = some (.own m)) ∨ ∀ m, F a ≠ some (.own m) := by
  by_cases h : ∃ m, F a = some (.own m)
  · exact .inl h
  · exact .inr fun m e => h ⟨m, e⟩
section
variable {F1 H F' H' : Hp} {M : List (Nat × Addr)}
theorem mg_sub (cl : NoMk F') (l : Lk F1 H) (nw : ∀ p, er F1 p = none → F' p ≠ none → H p = none ∧ ∀ ob u, F' p = some u → H' p ≠ some (.frz ob u)) : Sub F' (mg F1 F') := fun a o h _ => by
  rcases mk_or (F := F1) a with ⟨m, e⟩ | e
  · have : H a = none := (nw a (by unfold er; rw [e]) (by rw [h]; exact fun z => nomatch z)).1
    rw [l.none this] at e; cases e
  · rw [mg_at e]; exact h
theorem mg_old (s : Sub (er F1) F') : Sub F1 (mg F1 F') := fun a o h m => by
  have n : ∀ k, F1 a ≠ some (.own k) := fun k z => by rw [h] at z; cases z; cases m
  rw [mg_at n]
  exact s a o (by rw [er_at n]; exact h) m
theorem mg_lk (l : Lk F1 H) (l' : Lk F' H') (hm : ∀ q ∈ M, F1 q.2 = none) (kp : ∀ p o m, F1 p = some (.own m) → H p = some o → (∀ j, (j, p) ∉ M) → H' p = some o) : Lk (mg F1 F') H' := fun a o h => by
  rcases mk_or (F := F1) a with ⟨m, e⟩ | e
  · rw [mg_mk e] at h; cases h
    refine .inr (.inr ⟨rfl, ?_⟩)
    rcases l a _ e with g | ⟨g, _⟩ | ⟨_, g⟩
    · rw [kp a _ m e g (fun j z => by rw [hm _ z] at e; cases e)]; exact fun z => nomatch z
    · exact g.elim
    · cases q : H a with
      | none => exact absurd q g
      | some u => rw [kp a _ m e q (fun j z => by rw [hm _ z] at e; cases e)]; exact fun z => nomatch z
  · rw [mg_at e] at h; exact l' a o h
theorem mg_kt (k : KT F1 H) (l : Lk F1 H) (k' : KT F' H') (hm : ∀ q ∈ M, F1 q.2 = none) (kp : ∀ p o m, F1 p = some (.own m) → H p = some o → (∀ j, (j, p) ∉ M) → H' p = some o) : KT (mg F1 F') H' := fun a ks h => by
  rcases mk_or (F := F1) a with ⟨m, e⟩ | e
  · exfalso
    cases q : H a with
    | none => rw [l.none q] at e; cases e
    | some u =>
      have := kp a u m e q (fun j z => by rw [hm _ z] at e; cases e)
      rw [h] at this; cases this
      rw [k a ks q] at e; cases e
  · rw [mg_at e]; exact k' a ks h
theorem mg_nw (nw : ∀ p, er F1 p = none → F' p ≠ none → H p = none ∧ ∀ ob u, F' p = some u → H' p ≠ some (.frz ob u)) : ∀ p, F1 p = none → mg F1 F' p ≠ none → H p = none ∧ ∀ ob u, mg F1 F' p = some u → H' p ≠ some (.frz ob u) := fun p h h' => by
  have e : mg F1 F' p = F' p := mg_at (fun m z => by rw [h] at z; cases z)
  rw [e] at h' ⊢
  exact nw p (er_none h) h'
theorem mg_new (cl : NoMk F') : ∀ a m, mg F1 F' a = some (.own m) → F1 a = some (.own m) := fun a m h => by
  rcases mk_or (F := F1) a with ⟨k, e⟩ | e
  · rw [mg_mk e] at h; rw [e]; exact h
  · rw [mg_at e] at h; exact absurd h (cl a m)
end
theorem OutsOk.mono {K : Fg} {F G H : Hp} (s : Sub F G) : ∀ {M : List (Nat × Addr)} {os : List D}, (∀ q ∈ M, F q.2 = none → G q.2 = none) → OutsOk K F H M os → OutsOk K G H M os
  | [], [], _, h => h
  | q :: M, d :: os, n, h => ⟨⟨n q List.mem_cons_self h.1.1, h.1.2.mono s fun _ z => z⟩, OutsOk.mono s (fun r hr => n r (List.mem_cons_of_mem _ hr)) h.2⟩
  | [], _ :: _, _, h => h.elim
  | _ :: _, [], _, h => h.elim
theorem ArgsOk.mono {K : Fg} {F G H : Hp} (s : Sub F G) (n0 : ∀ a, F a = none → G a = none) {n : Nat} {fl : List Bool} {vs : List V} {ds : List D} {M : List (Nat × Addr)} (h : ArgsOk K F H n fl vs ds M) : ArgsOk K G H n fl vs ds M := by
  induction h with
  | nil => exact .nil
  | fz a _ ih => exact .fz (a.mono s) ih
  | ow a b _ ih => exact .ow (n0 _ a) (b.mono s fun _ z => z) ih
section
variable {K : Fg} {F H : Hp}
theorem ArgsOk.len {n : Nat} {fl : List Bool} {vs : List V} {ds : List D} {M : List (Nat × Addr)} (h : ArgsOk K F H n fl vs ds M) : vs.length = fl.length ∧ ds.length = fl.length := by
  induction h with
  | nil => exact ⟨rfl, rfl⟩
  | fz _ _ ih => exact ⟨congrArg Nat.succ ih.1, congrArg Nat.succ ih.2⟩
  | ow _ _ _ ih => exact ⟨congrArg Nat.succ ih.1, congrArg Nat.succ ih.2⟩
theorem ArgsOk.none {n : Nat} {fl : List Bool} {vs : List V} {ds : List D} {M : List (Nat × Addr)} (h : ArgsOk K F H n fl vs ds M) : ∀ q ∈ M, F q.2 = none := by
  induction h with
  | nil => exact fun q hq => nomatch hq
  | fz _ _ ih => exact ih
  | ow a _ _ ih =>
    intro q hq
    rcases List.mem_cons.mp hq with rfl | hq
    · exact a
    · exact ih q hq
theorem ArgsOk.slots {n : Nat} {fl : List Bool} {vs : List V} {ds : List D} {M : List (Nat × Addr)} (h : ArgsOk K F H n fl vs ds M) : M.map (·.1) = slotsOf n fl := by
  induction h with
  | nil => rfl
  | fz _ _ ih => exact ih
  | ow _ _ _ ih => exact congrArg (List.cons _) ih
def AtOk (K : Fg) (F H : Hp) (M : List (Nat × Addr)) (k : Nat) (v : V) : Sv → Prop
  | .fz d => Dt K F v d
  | .pw d => ∃ p, v = .ref p ∧ F p = none ∧ Own K F H p d ∧ (k, p) ∈ M
  | _ => False
theorem AtOk.more {M M' : List (Nat × Addr)} {k : Nat} {v : V} {x : Sv} (h : AtOk K F H M k v x) (s : ∀ q ∈ M, q ∈ M') : AtOk K F H M' k v x := by
  cases x with
  | fz d => exact h
  | pw d => obtain ⟨p, a, b, c, e⟩ := h; exact ⟨p, a, b, c, s _ e⟩
  | un => exact h
  | ow _ => exact h
  | tr _ _ => exact h
  | tw _ _ => exact h
theorem ArgsOk.entry {n : Nat} {fl : List Bool} {vs : List V} {ds : List D} {M : List (Nat × Addr)} (h : ArgsOk K F H n fl vs ds M) :
    (DL.entry fl ds).length = fl.length ∧ (∀ (i : Nat) (x : Sv), (DL.entry fl ds)[i]? = some x → ∃ v, vs[i]? = some v ∧ AtOk K F H M (n + i) v x) ∧ ∀ q ∈ M, ∃ (i : Nat) (d : D), q.1 = n + i ∧ (DL.entry fl ds)[i]? = some (.pw d) ∧ vs[i]? = some (.ref q.2) := by
  induction h with
  | nil => exact ⟨rfl, fun i x e => by simp [DL.entry] at e, fun q hq => nomatch hq⟩
  | fz hd _ ih =>
    obtain ⟨h1, h2, h3⟩ := ih
    refine ⟨congrArg Nat.succ h1, fun i x e => ?_, fun q hq => ?_⟩
    · cases i with
      | zero => simp [DL.entry] at e; subst e; exact ⟨_, rfl, hd⟩
      | succ i =>
        obtain ⟨v, a, b⟩ := h2 i x (by simpa [DL.entry] using e)
        exact ⟨v, by simpa using a, by rw [Nat.add_right_comm] at b; exact b⟩
    · obtain ⟨i, d, a, b, c⟩ := h3 q hq
      exact ⟨i + 1, d, by omega, by simpa [DL.entry] using b, by simpa using c⟩
  | ow n1 ho _ ih =>
    obtain ⟨h1, h2, h3⟩ := ih
    refine ⟨congrArg Nat.succ h1, fun i x e => ?_, fun q hq => ?_⟩
    · cases i with
      | zero => simp [DL.entry] at e; subst e; exact ⟨_, rfl, _, rfl, n1, ho, List.mem_cons_self⟩
      | succ i =>
        obtain ⟨v, a, b⟩ := h2 i x (by simpa [DL.entry] using e)
        exact ⟨v, by simpa using a, by rw [Nat.add_right_comm] at b; exact b.more fun q hq => List.mem_cons_of_mem _ hq⟩
    · rcases List.mem_cons.mp hq with rfl | hq
      · exact ⟨0, _, rfl, rfl, rfl⟩
      · obtain ⟨i, d, a, b, c⟩ := h3 q hq
        exact ⟨i + 1, d, by omega, by simpa [DL.entry] using b, by simpa using c⟩
theorem sl_entry {N : List Str} {fl : List Bool} {vs : List V} {ds : List D} {M : List (Nat × Addr)} (h : ArgsOk K F H 0 fl vs ds M) (fh : Lk F H) (nm : NoMk F) (kt : KP K F H) (ap : Apart M) : Sl K ⟨F, H, M, [], [], K.tb, noZ⟩ F H (L2.start N vs) (env0 N.length fl ds) := by
  have h0 := h.none
  obtain ⟨e1, e2, e3⟩ := h.entry
  obtain ⟨l1, l2⟩ := h.len
  have look : ∀ {i : Nat} {x : Sv}, (env0 N.length fl ds)[i]? = some x → x ≠ .un → ∃ v, (L2.start N vs)[i]? = some (some v) ∧ AtOk K F H M i v x := fun {i x} e nu => by
    unfold env0 at e
    by_cases hi : i < (DL.entry fl ds).length
    · rw [List.getElem?_append_left hi] at e
      obtain ⟨v, a, b⟩ := e2 i x e
      refine ⟨v, ?_, by rw [Nat.zero_add] at b; exact b⟩
      unfold L2.start
      rw [List.getElem?_append_left (by rw [List.length_map, l1, ← e1]; exact hi), List.getElem?_map, a]
      rfl
    · rw [List.getElem?_append_right (Nat.le_of_not_lt hi), List.getElem?_replicate] at e
      split at e
      · cases e; exact absurd rfl nu
      · cases e
  have ow : ∀ {i : Nat} {d : D}, IsOw (env0 N.length fl ds) i d → ∃ p, (L2.start N vs)[i]? = some (some (.ref p)) ∧ F p = none ∧ Own K F H p d ∧ (i, p) ∈ M := fun {i d} o => by
    rcases o with o | o
    · obtain ⟨v, _, b⟩ := look o (fun z => nomatch z)
      exact b.elim
    · obtain ⟨v, a, p, rfl, b, c, e⟩ := look o (fun z => nomatch z)
      exact ⟨p, a, b, c, e⟩
  refine ⟨fh, ?_, fun i d e => look e (fun z => nomatch z), fun i d o => ?_, fun i j d e p a b c f => ?_, fun q hq => ?_, Sub.refl F, fun p a b => absurd a b, fun p o a _ _ _ => a, fun p hp => (nomatch hp), fun q hq => (nomatch hq), fun a ob u e h => .inr ⟨h, fun j hj => ?_, fun w hw => (nomatch hw), fun z => by rw [kt.nf a z] at e; cases e⟩, fun i s d e => by
    rcases e with e | e
    · obtain ⟨v, _, b⟩ := look e (fun z => nomatch z)
      exact b.elim
    · obtain ⟨v, _, b⟩ := look e (fun z => nomatch z)
      exact b.elim, fun a m e => absurd e (nm a m), fun a z => by
      obtain ⟨ps, q⟩ := tabs_at kt.tb z
      have q' : H a ≠ none := by rw [q]; exact fun z => nomatch z
      exact ⟨q', q', .inr z, .inl (kt.nf a z)⟩, kt.kt, ⟨kt.tb, kt.tb, fun q h => ⟨kt.nf q h, h⟩⟩⟩
  rotate_right
  · rw [h0 (j, a) hj] at e; cases e
  · unfold env0 L2.start
    rw [List.length_append, List.length_append, List.length_replicate, List.length_replicate, List.length_map, e1, l1]
  · obtain ⟨p, a, b, c, e⟩ := ow o
    exact ⟨p, a, b, c, .inr ⟨i, e⟩⟩
  · obtain ⟨p1, a1, _, _, a2⟩ := ow a
    obtain ⟨p2, b1, _, _, b2⟩ := ow b
    rw [c] at a1; cases a1
    rw [f] at b1; cases b1
    exact ap i j p a2 b2
  · obtain ⟨i, d, a, b, c⟩ := e3 q hq
    rw [Nat.zero_add] at a
    have hi : i < (DL.entry fl ds).length := (List.getElem?_eq_some_iff.mp b).1
    refine ⟨⟨d, .inl ?_⟩, ?_⟩
    · unfold env0
      rw [a, List.getElem?_append_left hi]
      exact b
    · unfold L2.start
      rw [a, List.getElem?_append_left (by rw [List.length_map, l1, ← e1]; exact hi), List.getElem?_map, c]
      rfl
theorem outs_ok {B : Bs} {F' H' : Hp} {σ : L2.St} {e : En} (S : Sl K B F' H' σ e) : ∀ {M : List (Nat × Addr)} {os : List D}, (∀ q ∈ M, q ∈ B.M) → outsAt (M.map (·.1)) e = some os → OutsOk K F' H' M os
  | [], os, _, h => by cases h; trivial
  | q :: M, os, hs, h => by
    obtain ⟨⟨d, h1⟩, h2⟩ := S.pm q (hs q List.mem_cons_self)
    rcases h1 with h1 | ⟨_, _, _, h1⟩
    rotate_left
    · have h : (match e[q.1]? with | some (.pw d) => (outsAt (M.map (·.1)) e).bind fun ds => some (d :: ds) | _ => none) = some os := h
      rw [h1] at h; cases h
    have h : (match e[q.1]? with | some (.pw d) => (outsAt (M.map (·.1)) e).bind fun ds => some (d :: ds) | _ => none) = some os := h
    rw [h1] at h
    obtain ⟨ds, h3, h⟩ := bd h
    cases h
    obtain ⟨p, g1, g2, g3, _⟩ := S.own q.1 d (.inr h1)
    rw [h2] at g1; cases g1
    exact ⟨⟨g2, g3⟩, outs_ok S (fun r hr => hs r (List.mem_cons_of_mem _ hr)) h3⟩
end
/-- the body's reading from the promise -/
theorem body_of {wh : Wh} {K : Fg} {N : List Str} {fl : List Bool} {body : Sf} {vs : List V} {H : Hp} {Q : VK} {E : XK} (h : spD K fl .fz (gOf N.length fl body) vs H Q E) : tS K wh body { nx := fun _ H' => Q .non H', rt := Q } (L2.start N vs) H := by
  obtain ⟨F, ds, d, os, M, fh, nm, kt, ha, ap, hg, k⟩ := h
  unfold gOf at hg
  rw [if_pos ha.len.2] at hg
  obtain ⟨r, hr, hg⟩ := bd hg
  refine ⟨⟨F, H, M, [], [], K.tb, noZ⟩, F, env0 N.length fl ds, r, sl_entry ha fh nm kt ap, hr, ?_⟩
  have nf : ∀ {σ' : L2.St} {F' H' : Hp} {e : En}, Sl K ⟨F, H, M, [], [], K.tb, noZ⟩ F' H' σ' e → ∀ p, F p = none → er F' p ≠ none → H p = none ∧ ∀ ob u, er F' p = some u → H' p ≠ some (.frz ob u) := fun {_ F' _ _} S p a b => by
    have b' : F' p ≠ none := fun z => b (er_none z)
    refine ⟨S.nw p a b', fun ob u e h => ?_⟩
    rcases S.lk p ob u (er_some e) h with z | ⟨z, _⟩
    · cases z
    · have n0 := S.nw p a b'
      dsimp only at z n0
      rw [n0] at z; cases z
  have out : ∀ {σ' : L2.St} {F' H' : Hp} {e : En}, Sl K ⟨F, H, M, [], [], K.tb, noZ⟩ F' H' σ' e → outsAt (slotsOf 0 fl) e = some os → OutsOk K (er F') H' M os := fun S q => by
    rw [← ha.slots] at q
    exact (outs_ok S (fun _ z => z) q).mono (er_sub _) fun _ _ z => er_none z
  cases r with
  | nx e =>
    obtain ⟨os', q, hg⟩ := bd hg
    cases hg
    exact fun σ' F' H' S s => k .non (er F') H' (er_lk S.fh) (er_no _) S.kpE (s.trans (er_sub _)) (nf S) (fun p o a b c => S.kp p o a b (fun _ z => nomatch z) c) (out S q) (Dt.non : Dt K (er F') .non .none)
  | rt d' e =>
    obtain ⟨os', q, hg⟩ := bd hg
    cases hg
    exact fun v σ' F' H' S s hd => k v (er F') H' (er_lk S.fh) (er_no _) S.kpE (s.trans (er_sub _)) (nf S) (fun p o a b c => S.kp p o a b (fun _ z => nomatch z) c) (out S q) (hd.mono (er_sub _))
  | rn d' e => cases hg
  | rm s0 d' e => cases hg
  | xx x e => cases hg
  | bk e => cases hg
  | ct e => cases hg
theorem bodyN_of {wh : Wh} {K : Fg} {N : List Str} {fl : List Bool} {body : Sf} {vs : List V} {H : Hp} {Q : VK} {E : XK} (h : spD K fl .nw (gOfN N.length fl body) vs H Q E) : tS K wh body { nx := fun _ H' => Q .non H', rt := Q } (L2.start N vs) H := by
  obtain ⟨F, ds, d, os, M, fh, nm, kt, ha, ap, hg, k⟩ := h
  unfold gOfN at hg
  rw [if_pos ha.len.2] at hg
  obtain ⟨r, hr, hg⟩ := bd hg
  refine ⟨⟨F, H, M, [], [], K.tb, noZ⟩, F, env0 N.length fl ds, r, sl_entry ha fh nm kt ap, hr, ?_⟩
  have nf : ∀ {σ' : L2.St} {F' H' : Hp} {e : En}, Sl K ⟨F, H, M, [], [], K.tb, noZ⟩ F' H' σ' e → ∀ p, F p = none → er F' p ≠ none → H p = none ∧ ∀ ob u, er F' p = some u → H' p ≠ some (.frz ob u) := fun {_ F' _ _} S p a b => by
    have b' : F' p ≠ none := fun z => b (er_none z)
    refine ⟨S.nw p a b', fun ob u e h => ?_⟩
    rcases S.lk p ob u (er_some e) h with z | ⟨z, _⟩
    · cases z
    · have n0 := S.nw p a b'
      dsimp only at z n0
      rw [n0] at z; cases z
  have out : ∀ {σ' : L2.St} {F' H' : Hp} {e : En}, Sl K ⟨F, H, M, [], [], K.tb, noZ⟩ F' H' σ' e → outsAt (slotsOf 0 fl) e = some os → OutsOk K (er F') H' M os := fun S q => by
    rw [← ha.slots] at q
    exact (outs_ok S (fun _ z => z) q).mono (er_sub _) fun _ _ z => er_none z
  cases r with
  | rn d' e =>
    obtain ⟨os', q, hg⟩ := bd hg
    cases hg
    exact fun p σ' F' H' S s n n0 ho => k (.ref p) (er F') H' (er_lk S.fh) (er_no _) S.kpE (s.trans (er_sub _)) (nf S) (fun p o a b c => S.kp p o a b (fun _ z => nomatch z) c) (out S q) ⟨p, rfl, er_none n, n0, ho.mono (er_sub _) fun _ z => z⟩
  | nx e => cases hg
  | rt d' e => cases hg
  | rm s0 d' e => cases hg
  | xx x e => cases hg
  | bk e => cases hg
  | ct e => cases hg
theorem spD_len {K : Fg} {fl : List Bool} {nw : Rk} {g : List D → Option (D × List D)} {ps : List Str} (hl : fl.length = ps.length) : ∀ vs H Q E, spD K fl nw g vs H Q E → vs.length = ps.length := fun vs H Q E h => by
  obtain ⟨F, ds, d, os, M, fh, _, _, ha, _⟩ := h
  rw [ha.len.1]
  exact hl
def callIn : List Bool → List OV → En → Option (List D)
  | [], [], _ => some []
  | false :: fl, .fz d :: us, e => (callIn fl us e).bind fun ds => some (d :: ds)
  | true :: fl, .sl i :: us, e => match e[i]? with
    | some (.ow d) => (callIn fl us e).bind fun ds => some (d :: ds)
    | some (.pw d) => (callIn fl us e).bind fun ds => some (d :: ds)
    | _ => none
  | _, _, _ => none
def callSl : List OV → List Nat
  | [] => []
  | .fz _ :: us => callSl us
  | .sl i :: us => i :: callSl us
def chg (i : Nat) (d : D) (e : En) : Option En := match e[i]? with
  | some (.ow _) => some (e.set i (.ow d))
  | some (.pw _) => some (e.set i (.pw d))
  | _ => none
/-- at most one object is given to be changed -/
def putBack : List Nat → List D → En → Option En
  | [], [], e => some e
  | [i], [d], e => chg i d e
  | _, _, _ => none
def eCall (fl : List Bool) (g : List D → Option (D × List D)) (os : List Opd) : Df := fun env => (evs os env).bind fun r => (callIn fl r.1 r.2).bind fun ds => (g ds).bind fun o => (putBack (callSl r.1) o.2 r.2).bind fun e => some (o.1, e)
theorem callIn_args {K : Fg} {B : Bs} {F H : Hp} {σ : L2.St} {e : En} (S : Sl K B F H σ e) : ∀ {fl : List Bool} {us : List OV} {vs : List V} {ds : List D} (n : Nat), OVA K F σ us vs → callIn fl us e = some ds →
    ∃ M, ArgsOk K F H n fl vs ds M ∧ M.length = (callSl us).length ∧ ∀ (k i : Nat), (callSl us)[k]? = some i → ∃ (m : Nat) (p : Addr) (d : D), M[k]? = some (m, p) ∧ IsOw e i d ∧ σ[i]? = some (some (.ref p))
  | [], [], [], ds, n, _, h => by cases h; exact ⟨[], .nil, rfl, fun k i z => by simp [callSl] at z⟩
  | false :: fl, .fz d :: us, v :: vs, ds, n, ho, h => by
    obtain ⟨ds', q, h⟩ := bd (show (callIn fl us e).bind (fun ds => some (d :: ds)) = some ds from h)
    cases h
    obtain ⟨M, a, b, c⟩ := callIn_args S (n + 1) ho.2 q
    exact ⟨M, .fz ho.1 a, b, c⟩
  | true :: fl, .sl i :: us, v :: vs, ds, n, ho, h => by
    have hv : σ[i]? = some (some v) := ho.1
    have go : ∀ {d : D}, IsOw e i d → (callIn fl us e).bind (fun ds => some (d :: ds)) = some ds → ∃ M, ArgsOk K F H n (true :: fl) (v :: vs) ds M ∧ M.length = (callSl (.sl i :: us)).length ∧ ∀ (k j : Nat), (callSl (.sl i :: us))[k]? = some j → ∃ (m : Nat) (p : Addr) (d : D), M[k]? = some (m, p) ∧ IsOw e j d ∧ σ[j]? = some (some (.ref p)) := fun {d} hw h => by
      obtain ⟨ds', q, h⟩ := bd h
      cases h
      obtain ⟨M, a, b, c⟩ := callIn_args S (n + 1) ho.2 q
      obtain ⟨p, h1, h2, h3, _⟩ := S.own i d hw
      rw [hv] at h1; cases h1
      refine ⟨_, .ow h2 h3 a, congrArg Nat.succ b, fun k j z => ?_⟩
      cases k with
      | zero => cases z; exact ⟨n, p, d, rfl, hw, hv⟩
      | succ k => exact c k j z
    have h : (match e[i]? with | some (.ow d) => (callIn fl us e).bind fun ds => some (d :: ds) | some (.pw d) => (callIn fl us e).bind fun ds => some (d :: ds) | _ => none) = some ds := h
    split at h
    · rename_i d q; exact go (.inl q) h
    · rename_i d q; exact go (.inr q) h
    · cases h
  | [], [], _ :: _, _, _, ho, _ => ho.elim
  | [], _ :: _, _, _, _, _, h => by cases h
  | true :: _, [], _, _, _, _, h => by cases h
  | false :: _, [], _, _, _, _, h => by cases h
  | true :: _, .fz _ :: _, _, _, _, _, h => by cases h
  | false :: _, .sl _ :: _, _, _, _, _, h => by cases h
  | false :: _, .fz _ :: _, [], _, _, ho, _ => ho.elim
  | true :: _, .sl _ :: _, [], _, _, ho, _ => ho.elim
theorem putBack_inv {is : List Nat} {os : List D} {e e' : En} (h : putBack is os e = some e') : (is = [] ∧ e' = e) ∨ ∃ i d, is = [i] ∧ os = [d] ∧ chg i d e = some e' := by
  cases is with
  | nil =>
    cases os with
    | nil => cases h; exact .inl ⟨rfl, rfl⟩
    | cons _ _ => cases h
  | cons i r =>
    cases r with
    | nil =>
      cases os with
      | nil => cases h
      | cons d r =>
        cases r with
        | nil => exact .inr ⟨i, d, rfl, rfl, h⟩
        | cons _ _ => cases h
    | cons _ _ => cases os <;> cases h
/-- what is so behind the call -/
theorem Sl.called {K : Fg} {B : Bs} {F H F' H' : Hp} {σ : L2.St} {e e' : En} {us : List OV} {os : List D} {M : List (Nat × Addr)} (S : Sl K B F H σ e) (pb : putBack (callSl us) os e = some e') (ml : M.length = (callSl us).length)
    (ms : ∀ (k i : Nat), (callSl us)[k]? = some i → ∃ (m : Nat) (p : Addr) (d : D), M[k]? = some (m, p) ∧ IsOw e i d ∧ σ[i]? = some (some (.ref p)))
    (fh : Lk F' H') (s : Sub F F') (nw : ∀ p, F p = none → F' p ≠ none → H p = none ∧ ∀ ob u, F' p = some u → H' p ≠ some (.frz ob u)) (kp : ∀ p o, H p = some o → (∀ j, (j, p) ∉ M) → ¬ K.tb p → H' p = some o) (ok : OutsOk K F' H' M os) (hmk : ∀ a m, F a = some (.own m) → F' a = some (.own m)) (hmn : ∀ a m, F' a = some (.own m) → F a = some (.own m)) (hkt : KT F' H') (htb : LamX.Tabs K.T H') : Sl K B F' H' σ e' := by
  rcases putBack_inv pb with ⟨cs, he⟩ | ⟨i, d, cs, co, pb'⟩
  · subst he
    rw [cs] at ml
    have : M = [] := List.eq_nil_of_length_eq_zero ml
    subst this
    exact S.extT fh s nw (fun p o h => kp p o h fun j z => nomatch z) hmk hmn hkt htb
  · subst co
    rw [cs] at ml ms
    obtain ⟨m, p, d0, m1, m2, m3⟩ := ms 0 i rfl
    obtain ⟨q, rfl⟩ : ∃ q, M = [q] := by
      cases M with
      | nil => cases ml
      | cons q r =>
        cases r with
        | nil => exact ⟨q, rfl⟩
        | cons _ _ => cases ml
    have hq : q = (m, p) := by simpa using m1
    subst hq
    obtain ⟨⟨o1, o2⟩, _⟩ := ok
    have o1 : F' p = none := o1
    have o2 : Own K F' H' p d := o2
    have hi : i < e.length := by
      rcases m2 with z | z <;> exact (List.getElem?_eq_some_iff.mp z).1
    obtain ⟨x, hx, rfl⟩ : ∃ x : Sv, ((e[i]? = some (.ow d0) ∧ x = .ow d) ∨ (e[i]? = some (.pw d0) ∧ x = .pw d)) ∧ e' = e.set i x := by
      unfold DL.chg at pb'
      rcases m2 with z | z
      · rw [z] at pb'; cases pb'; exact ⟨_, .inl ⟨z, rfl⟩, rfl⟩
      · rw [z] at pb'; cases pb'; exact ⟨_, .inr ⟨z, rfl⟩, rfl⟩
    refine S.after fh s nw (fun a => a = p) (fun a o h hn => kp a o h fun j z => hn (by cases z with | head => rfl | tail _ z => cases z)) (by simp) (fun j y z => ?_) (fun j y z => ?_) (fun j y z => ?_) (fun a ha => ?_) (fun j s y z => (set_tr hi (fun s y => by rcases hx with ⟨_, hx⟩ | ⟨_, hx⟩ <;> (rw [hx]; exact ⟨(by intro z; cases z), (by intro z; cases z)⟩)) z).2) hmk hmn hkt htb
    · rcases set_other hi z with ⟨_, w⟩ | ⟨_, b⟩
      · rcases hx with ⟨_, hx⟩ | ⟨_, hx⟩ <;> (rw [hx] at w; cases w)
      · exact b
    · by_cases hj : j = i
      · subst hj
        refine ⟨d0, m2, fun r hr => .inr ?_⟩
        rw [m3] at hr; cases hr
        have : y = d := by
          rcases z with z | z
          · rcases set_other hi z with ⟨_, w⟩ | ⟨a, _⟩
            · rcases hx with ⟨_, hx⟩ | ⟨_, hx⟩ <;> (rw [hx] at w; cases w; try rfl)
            · exact absurd rfl a
          · rcases set_other hi z with ⟨_, w⟩ | ⟨a, _⟩
            · rcases hx with ⟨_, hx⟩ | ⟨_, hx⟩ <;> (rw [hx] at w; cases w; try rfl)
            · exact absurd rfl a
        subst this
        exact o2
      · have z' : IsOw e j y := by
          rcases z with z | z
          · exact .inl (by rw [List.getElem?_set_ne (Ne.symm hj)] at z; exact z)
          · exact .inr (by rw [List.getElem?_set_ne (Ne.symm hj)] at z; exact z)
        exact ⟨y, z', fun r hr => .inl ⟨rfl, fun w => hj (S.ap j i y d0 r z' m2 hr (by rw [w]; exact m3))⟩⟩
    · by_cases hj : j = i
      · subst hj
        rcases hx with ⟨hx, _⟩ | ⟨_, hx⟩
        · unfold IsPw at z
          rw [hx] at z
          rcases z with z | ⟨_, _, _, z⟩ <;> cases z
        · exact ⟨d, .inl (by rw [List.getElem?_set_self hi, hx])⟩
      · exact ⟨y, by unfold IsPw; rw [List.getElem?_set_ne (Ne.symm hj)]; exact z⟩
    · subst ha
      obtain ⟨u, hu, _⟩ := o2.some
      exact ⟨⟨i, d0, m2, m3⟩, by rw [hu]; exact fun z => nomatch z⟩
theorem apart_of {K : Fg} {B : Bs} {F H : Hp} {σ : L2.St} {e : En} {M : List (Nat × Addr)} (h : M.length ≤ 1) : Apart M := fun i j p a b => by
  cases M with
  | nil => cases a
  | cons q r =>
    cases r with
    | nil =>
      have a : (i, p) = q := by simpa using a
      have b : (j, p) = q := by simpa using b
      rw [← b] at a
      cases a; rfl
    | cons _ _ => exact absurd h (by simp)
theorem putBack_le {is : List Nat} {os : List D} {e e' : En} (h : putBack is os e = some e') : is.length ≤ 1 := by
  rcases putBack_inv h with ⟨a, _⟩ | ⟨i, d, a, _⟩ <;> (rw [a]; simp)
section
variable {X : Cx} {Tb : TbT} {x : Str} {p pos : Pos} {e : Expr} {es : List Expr} {f : Addr} {fd : FuncData} {ps : List Str} {k : Nat} {fl : List Bool} {g : List D → Option (D × List D)} {os : List Opd}
theorem call_le {K : Fg} {E : XK} : ∀ σ H Q, tD K (eCall fl g os) σ H Q → tCall (spD K fl .fz g) [] E (tAr K os) σ H Q := fun σ H Q ⟨B, F, env, d, env', S, ef, kk⟩ => by
  obtain ⟨⟨us, e1⟩, q1, ef⟩ := bd ef
  obtain ⟨ds, q2, ef⟩ := bd ef
  obtain ⟨⟨d', os'⟩, q3, ef⟩ := bd ef
  obtain ⟨e2, q4, ef⟩ := bd ef
  cases ef
  refine ⟨B, F, env, us, e1, S, q1, fun vs F1 H1 S1 s1 h1 => ?_⟩
  obtain ⟨M, a, b, c⟩ := callIn_args S1 0 h1 q2
  rw [List.append_nil]
  refine ⟨er F1, ds, _, os', M, er_lk S1.fh, er_no _, S1.kpE, a.mono (er_sub _) (fun _ z => er_none z), apart_of (K := K) (B := B) (F := F) (H := H) (σ := σ) (e := e1) (by rw [b]; exact putBack_le q4), q3, fun v F' H' fh cl kt' s nw kp ok hd => ?_⟩
  have sb := mg_sub cl S1.fh nw
  have mn : ∀ q ∈ M, F1 q.2 = none := a.none
  have kpm : ∀ p o m, F1 p = some (.own m) → H1 p = some o → (∀ j, (j, p) ∉ M) → H' p = some o := fun p o m e h n => kp p o h n (S1.ntF e)
  exact kk v (mg F1 F') H' (S1.called q4 b c (mg_lk S1.fh fh mn kpm) (mg_old s) (mg_nw nw) kp (ok.mono sb fun q hq z => by rw [mg_at (fun m w => by rw [mn q hq] at w; cases w)]; exact z) (fun _ _ z => mg_mk z) (mg_new cl) (mg_kt S1.kt S1.fh kt'.kt mn kpm) kt'.tb) (s1.trans (mg_old s)) (Dt.mono sb hd)
theorem callN_le {K : Fg} {E : XK} : ∀ σ H Q, tN K (eCall fl g os) σ H Q → tCall (spD K fl .nw g) [] E (tAr K os) σ H Q := fun σ H Q ⟨B, F, env, d, env', S, ef, kk⟩ => by
  obtain ⟨⟨us, e1⟩, q1, ef⟩ := bd ef
  obtain ⟨ds, q2, ef⟩ := bd ef
  obtain ⟨⟨d', os'⟩, q3, ef⟩ := bd ef
  obtain ⟨e2, q4, ef⟩ := bd ef
  cases ef
  refine ⟨B, F, env, us, e1, S, q1, fun vs F1 H1 S1 s1 h1 => ?_⟩
  obtain ⟨M, a, b, c⟩ := callIn_args S1 0 h1 q2
  rw [List.append_nil]
  refine ⟨er F1, ds, _, os', M, er_lk S1.fh, er_no _, S1.kpE, a.mono (er_sub _) (fun _ z => er_none z), apart_of (K := K) (B := B) (F := F) (H := H) (σ := σ) (e := e1) (by rw [b]; exact putBack_le q4), q3, fun v F' H' fh cl kt' s nw kp ok hd => ?_⟩
  have sb := mg_sub cl S1.fh nw
  have mn : ∀ q ∈ M, F1 q.2 = none := a.none
  have kpm : ∀ p o m, F1 p = some (.own m) → H1 p = some o → (∀ j, (j, p) ∉ M) → H' p = some o := fun p o m e h n => kp p o h n (S1.ntF e)
  obtain ⟨p, rfl, n, n0, ho⟩ := hd
  have S2 := S1.called q4 b c (mg_lk S1.fh fh mn kpm) (mg_old s) (mg_nw nw) kp (ok.mono sb fun q hq z => by rw [mg_at (fun m w => by rw [mn q hq] at w; cases w)]; exact z) (fun _ _ z => mg_mk z) (mg_new cl) (mg_kt S1.kt S1.fh kt'.kt mn kpm) kt'.tb
  refine kk p (mg F1 F') H' S2 (s1.trans (mg_old s)) (by rw [mg_at (fun m w => by rw [S1.fh.none n0] at w; cases w)]; exact n) (S1.fresh n0) (fun i d o z => ?_) (S1.neX n0) (ho.mono sb fun _ z => z)
  obtain ⟨d1, o1⟩ : ∃ d1, IsOw e1 i d1 := by
    rcases putBack_inv q4 with ⟨_, he⟩ | ⟨j, d2, cs, _, q4⟩
    · subst he; exact ⟨d, o⟩
    · obtain ⟨m, p', d0, m1, m2, m3⟩ := c 0 j (by rw [cs]; rfl)
      by_cases hj : i = j
      · subst hj; exact ⟨d0, m2⟩
      · unfold DL.chg at q4
        have hji : j ≠ i := Ne.symm hj
        rcases m2 with m2 | m2
        · rw [m2] at q4; cases q4
          rcases o with o | o
          · exact ⟨d, .inl (by rw [List.getElem?_set_ne hji] at o; exact o)⟩
          · exact ⟨d, .inr (by rw [List.getElem?_set_ne hji] at o; exact o)⟩
        · rw [m2] at q4; cases q4
          rcases o with o | o
          · exact ⟨d, .inl (by rw [List.getElem?_set_ne hji] at o; exact o)⟩
          · exact ⟨d, .inr (by rw [List.getElem?_set_ne hji] at o; exact o)⟩
  exact S1.neOw n0 o1 z
theorem de_call (G : FnOk X.prog X.w X.K X.mg X.base CX0 k f fd ps (spD (X.kg Tb) fl .fz g)) (hr : Room k X.A) (hg : Gl X x) (hm : X.mg x = some (.ref f)) (hk : PySem.W.keepIn X.K (.ref f) = true) (hb : Binds X.K fd ps []) 
    (ha : PA X (e :: es) (tAr (X.kg Tb) os)) (hdb : (x == ("__debug__" : Str)) = false := by decide) (he : starEach (e :: es) X.env = (false, eval e X.env) :: starEach es X.env := by rfl) (hpl : (backTo pos (starEach es X.env)).any (·.1) = false := by rfl) :
    PE X (.Call (.Name x p) (e :: es) [] pos) (tD (X.kg Tb) (eCall fl g os)) := PEi (pe_call (E := E0) G hr hg hm hk hb .nil pass0 ha hdb he hpl) call_le
theorem de_callN (G : FnOk X.prog X.w X.K X.mg X.base CX0 k f fd ps (spD (X.kg Tb) fl .nw g)) (hr : Room k X.A) (hg : Gl X x) (hm : X.mg x = some (.ref f)) (hk : PySem.W.keepIn X.K (.ref f) = true) (hb : Binds X.K fd ps []) 
    (ha : PA X (e :: es) (tAr (X.kg Tb) os)) (hdb : (x == ("__debug__" : Str)) = false := by decide) (he : starEach (e :: es) X.env = (false, eval e X.env) :: starEach es X.env := by rfl) (hpl : (backTo pos (starEach es X.env)).any (·.1) = false := by rfl) :
    PE X (.Call (.Name x p) (e :: es) [] pos) (tN (X.kg Tb) (eCall fl g os)) := PEi (pe_call (E := E0) G hr hg hm hk hb .nil pass0 ha hdb he hpl) callN_le
end
end DL
namespace DL
open PySem L2
/-- J gives out the data ds, one by one, wherever F's objects stand -/
def Walks (K : Fg) (J : It) (F : Hp) (ds : List D) : Prop := ∀ {B : Bs} {F' H : Hp} {σ : L2.St} {env : En}, Sl K B F' H σ env → Sub F F' → ∀ i : Nat,
  (∀ d, ds[i]? = some d → J.go i H ∧ ∀ x H', J.yld i H x H' → ∃ F'', Sl K B F'' H' σ env ∧ Sub F' F'' ∧ Dt K F'' x d) ∧ (ds.length = i → J.stop i H)
abbrev If := En → Option (List D × En)
def iD (K : Fg) (f : If) : TI := fun σ H R => ∃ B F env ds env', Sl K B F H σ env ∧ f env = some (ds, env') ∧ ∀ J F' H', Sl K B F' H' σ env' → Sub F F' → Walks K J F' ds → R J H'
section
variable {X : Cx} {Tb : TbT} {tg e a b : Expr} {pos : Pos}
theorem PIi {t u : TI} (h : PI X tg e t) (le : ∀ σ H R, u σ H R → t σ H R) : PI X tg e u := ⟨fun pins s σ H R I q => h.run pins s σ H R I (le σ H R q)⟩
/-- the items of a list, of a tuple -/
def iL (f : Df) : If := fun env => (f env).bind fun r => match r.1 with
  | .list ds => some (ds, r.2)
  | _ => none
def iT (f : Df) : If := fun env => (f env).bind fun r => match r.1 with
  | .tuple ds => some (ds, r.2)
  | _ => none
theorem walks_list {K : Fg} {F : Hp} {a : Addr} {vs : List V} {ds : List D} (h : F a = some (.lst vs)) (hd : DtA K F vs ds) : Walks K (Itl K.fr a) F ds := fun {B F' H σ env} S s i => by
  have hq : SqL K.fr H a vs := SqL.of (S.fh.lst (s _ _ h rfl))
  refine ⟨fun d e => ?_, fun hl => ⟨vs, hq, by rw [hd.length]; exact Nat.le_of_eq hl⟩⟩
  obtain ⟨v, h1, h2⟩ := hd.get e
  refine ⟨⟨vs, v, hq, h1⟩, fun x H' y => ?_⟩
  obtain ⟨rfl, y⟩ := y
  have := y vs hq
  rw [h1] at this; cases this
  exact ⟨F', S, Sub.refl _, h2.mono s⟩
theorem walks_tup {K : Fg} {F : Hp} {a : Addr} {vs : List V} {ds : List D} (h : F a = some (.tup vs)) (hd : DtA K F vs ds) : Walks K (Itt K.fr a) F ds := fun {B F' H σ env} S s i => by
  have hq : SqT K.fr H a vs := SqT.of (S.fh.tup (s _ _ h rfl))
  refine ⟨fun d e => ?_, fun hl => ⟨vs, hq, by rw [hd.length]; exact Nat.le_of_eq hl⟩⟩
  obtain ⟨v, h1, h2⟩ := hd.get e
  refine ⟨⟨vs, v, hq, h1⟩, fun x H' y => ?_⟩
  obtain ⟨rfl, y⟩ := y
  have := y vs hq
  rw [h1] at this; cases this
  exact ⟨F', S, Sub.refl _, h2.mono s⟩
theorem di_list {f : Df} (h : PE X e (tD (X.kg Tb) f)) : PI X tg e (iD (X.kg Tb) (iL f)) := PIi (pi_list h) fun σ H R ⟨B, F, env, ds, env', S, ef, k⟩ => by
  obtain ⟨⟨d, e1⟩, q, ef⟩ := bd ef
  cases d <;> first | (cases ef; done) | skip
  cases ef
  refine ⟨B, F, env, _, _, S, q, fun v F' H' S' s' hd => ?_⟩
  cases hd with
  | lst hq hd => exact ⟨_, rfl, ⟨_, SqL.of (S'.fh.lst hq)⟩, k _ F' H' S' s' (walks_list hq hd)⟩
theorem di_tup {f : Df} (h : PE X e (tD (X.kg Tb) f)) : PI X tg e (iD (X.kg Tb) (iT f)) := PIi (pi_tup h) fun σ H R ⟨B, F, env, ds, env', S, ef, k⟩ => by
  obtain ⟨⟨d, e1⟩, q, ef⟩ := bd ef
  cases d <;> first | (cases ef; done) | skip
  cases ef
  refine ⟨B, F, env, _, _, S, q, fun v F' H' S' s' hd => ?_⟩
  cases hd with
  | tup hq hd => exact ⟨_, rfl, ⟨_, SqT.of (S'.fh.tup hq)⟩, k _ F' H' S' s' (walks_tup hq hd)⟩
def rng (lo : Int) (n : Nat) : List D := (List.range n).map fun (i : Nat) => .int (lo + (i : Int))
theorem rng_get {lo : Int} {n i : Nat} {d : D} (h : (rng lo n)[i]? = some d) : i < n ∧ d = .int (lo + (i : Int)) := by
  unfold rng at h
  rw [List.getElem?_map] at h
  by_cases hi : i < n
  · rw [List.getElem?_range hi] at h
    cases h
    exact ⟨hi, rfl⟩
  · rw [List.getElem?_eq_none (by simpa using hi)] at h
    cases h
theorem rng_len (lo : Int) (n : Nat) : (rng lo n).length = n := by unfold rng; rw [List.length_map, List.length_range]
theorem walks_rng {K : Fg} {F : Hp} {lo : Int} {n : Nat} : Walks K (Itr lo n) F (rng lo n) := fun {B F' H σ env} S s i => by
  refine ⟨fun d e => ?_, fun hl => by rw [rng_len] at hl; exact Nat.le_of_eq hl⟩
  obtain ⟨h1, rfl⟩ := rng_get e
  refine ⟨h1, fun x H' y => ?_⟩
  obtain ⟨rfl, rfl⟩ := y
  exact ⟨F', S, Sub.refl _, .int _⟩
/-- range(n), range(m, n) -/
def iR1 (a : Opd) : If := fun env => (evs [a] env).bind fun r => (looks r.1 r.2).bind fun ds => match ds with
  | [.int n] => if -(2 ^ 62) ≤ n ∧ n < 2 ^ 62 then some (rng 0 n.toNat, r.2) else none
  | _ => none
def iR2 (a b : Opd) : If := fun env => (evs [a, b] env).bind fun r => (looks r.1 r.2).bind fun ds => match ds with
  | [.int m, .int n] => if -(2 ^ 62) ≤ m ∧ m < 2 ^ 62 ∧ -(2 ^ 62) ≤ n ∧ n < 2 ^ 62 then some (rng m (n - m).toNat, r.2) else none
  | _ => none
theorem BvA.one {K : Fg} {F H : Hp} {vs : List V} {d : D} (h : BvA K F H vs [d]) : ∃ v, vs = [v] ∧ Bv K F H v d := by
  cases vs with
  | nil => exact h.elim
  | cons v r =>
    cases r with
    | nil => exact ⟨v, rfl, h.1⟩
    | cons _ _ => exact h.2.elim
theorem BvA.two {K : Fg} {F H : Hp} {vs : List V} {d e : D} (h : BvA K F H vs [d, e]) : ∃ v w, vs = [v, w] ∧ Bv K F H v d ∧ Bv K F H w e := by
  cases vs with
  | nil => exact h.elim
  | cons v r =>
    obtain ⟨w, rfl, q⟩ := BvA.one h.2
    exact ⟨v, w, rfl, h.1, q⟩
theorem di_range1 {p : Pos} {o : Opd} (hg : Gl X "range") (hm : X.mg "range" = none) (ha : PE X a (tO (X.kg Tb) o)) (hs : starEach [a] X.env = [(false, eval a X.env)] := by rfl) : PI X tg (.Call (.Name "range" p) [a] [] pos) (iD (X.kg Tb) (iR1 o)) :=
  PIi (pi_range1 hg hm (da_cons ha da_nil hs) hs) fun σ H R ⟨B, F, env, ds, env', S, ef, k⟩ => by
    obtain ⟨⟨us, e1⟩, q, ef⟩ := bd ef
    obtain ⟨es, q2, ef⟩ := bd ef
    split at ef
    · rename_i n
      split at ef
      · rename_i hn
        cases ef
        refine ⟨B, F, env, us, _, S, q, fun vs F' H' S' s' ho => ?_⟩
        obtain ⟨v, rfl, hv⟩ := (ho.bv S' q2).one
        exact ⟨n, by rw [hv.int_inv], hn.1, hn.2, k _ F' H' S' s' walks_rng⟩
      · cases ef
    · cases ef
theorem di_range2 {p : Pos} {o o2 : Opd} (hg : Gl X "range") (hm : X.mg "range" = none) (ha : PE X a (tO (X.kg Tb) o)) (hb : PE X b (tO (X.kg Tb) o2)) (hs : starEach [a, b] X.env = [(false, eval a X.env), (false, eval b X.env)] := by rfl) (hs2 : starEach [b] X.env = [(false, eval b X.env)] := by rfl) : PI X tg (.Call (.Name "range" p) [a, b] [] pos) (iD (X.kg Tb) (iR2 o o2)) :=
  PIi (pi_range2 hg hm (da_cons ha (da_cons hb da_nil hs2) (by rw [hs, hs2])) hs hs2) fun σ H R ⟨B, F, env, ds, env', S, ef, k⟩ => by
    obtain ⟨⟨us, e1⟩, q, ef⟩ := bd ef
    obtain ⟨es, q2, ef⟩ := bd ef
    split at ef
    · rename_i m n
      split at ef
      · rename_i hn
        cases ef
        refine ⟨B, F, env, us, _, S, q, fun vs F' H' S' s' ho => ?_⟩
        obtain ⟨v, w, rfl, hv, hw⟩ := (ho.bv S' q2).two
        exact ⟨m, n, by rw [hv.int_inv, hw.int_inv], ⟨hn.1, hn.2.1, hn.2.2.1, hn.2.2.2⟩, k _ F' H' S' s' walks_rng⟩
      · cases ef
    · cases ef
end
def forD (t : Tg) (body : Sf) : List D → En → Option Rs
  | [], env => some (.nx env)
  | d :: ds, env => (t d env).bind fun e1 => (body e1).bind fun r => match r with
    | .nx e => forD t body ds e
    | .ct e => forD t body ds e
    | .bk e => some (.nx e)
    | .rt d e => some (.rt d e)
    | .rn d e => some (.rn d e)
    | .rm s d e => some (.rm s d e)
    | .xx x e => some (.xx x e)
def sFor (t : Tg) (it : If) (body : Sf) : Sf := fun env => (it env).bind fun r => forD t body r.1 r.2
section
variable {X : Cx} {Tb : TbT} {tg iter : Expr} {body : List Stmt} {pos : Pos}
theorem drop_get {α : Type} {l : List α} {i : Nat} {x : α} (h : l[i]? = some x) : l.drop i = x :: l.drop (i + 1) := by
  obtain ⟨hi, e⟩ := List.getElem?_eq_some_iff.mp h
  rw [List.drop_eq_getElem_cons hi, e]
theorem dS_for {wh : Wh} {t : Tg} {ts : List Nat} {it : If} {f : Sf} (hp : PassesOwn (model X.prog X.w) X.A X.env X.xe) (hc : X.calm = true) (hi : PI X tg iter (iD (X.kg Tb) it)) (hg : PG X tg (gD (X.kg Tb) t ts)) (hb : PSs X body (tS (X.kg Tb) wh f))
    (hs : ∀ x, foldedSetIterable iter X.env x = pure x := by intro _; rfl) : PS X (.For tg iter body [] pos) (tS (X.kg Tb) wh (sFor t it f)) := PSi (ps_for hp hc hi hg hb hs) fun E σ H ⟨B, F, env, r, S, ef, k⟩ => by
  obtain ⟨⟨ds, e1⟩, q, ef⟩ := bd ef
  refine ⟨B, F, env, ds, e1, S, q, fun J F1 H1 S1 s1 W => ?_⟩
  refine ⟨fun i m σ H => m = ds.length - i ∧ i ≤ ds.length ∧ ∃ F2 env2, Sl (X.kg Tb) B F2 H σ env2 ∧ Sub F1 F2 ∧ forD t f (ds.drop i) env2 = some r, ⟨ds.length, by simp, Nat.zero_le _, F1, e1, S1, Sub.refl _, ef⟩, ?_⟩
  rintro i m σ2 H2 ⟨rfl, hi, F2, env2, S2, s2, ef2⟩
  obtain ⟨w1, w2⟩ := W S2 s2 i
  cases hd : ds[i]? with
  | none =>
    have hl : ds.length ≤ i := List.getElem?_eq_none_iff.mp hd
    rw [List.drop_eq_nil_of_le hl] at ef2
    cases ef2
    exact .inl ⟨w2 (Nat.le_antisymm hl hi), k σ2 F2 H2 S2 (s1.trans s2)⟩
  | some d =>
    have hlt : i < ds.length := (List.getElem?_eq_some_iff.mp hd).1
    rw [drop_get hd] at ef2
    obtain ⟨e3, q3, ef2⟩ := bd (show (t d env2).bind (fun e1 => (f e1).bind fun r => match r with
      | .nx e => forD t f (ds.drop (i + 1)) e
      | .ct e => forD t f (ds.drop (i + 1)) e
      | .bk e => some (.nx e)
      | .rt d e => some (.rt d e)
      | .rn d e => some (.rn d e)
      | .rm s d e => some (.rm s d e)
      | .xx x e => some (.xx x e)) = some r from ef2)
    obtain ⟨r1, q4, ef2⟩ := bd ef2
    obtain ⟨go, yl⟩ := w1 d hd
    refine .inr ⟨go, fun σ' H' => ∃ F2 env2, Sl (X.kg Tb) B F2 H' σ' env2 ∧ Sub F1 F2 ∧ forD t f (ds.drop (i + 1)) env2 = some r, fun σ' H' ⟨F3, en3, S3, s3, e3⟩ => ⟨ds.length - (i + 1), by omega, rfl, hlt, F3, en3, S3, s3, e3⟩, fun x H' y => ?_⟩
    obtain ⟨F3, S3, s3, hx⟩ := yl x H' y
    refine ⟨B, F3, env2, d, e3, S3, hx, q3, fun σ4 F4 H4 S4 s4 _ => ⟨B, F4, e3, r1, S4, q4, ?_⟩⟩
    have sub : Sub F F4 := ((s1.trans s2).trans s3).trans s4
    have sub1 : Sub F1 F4 := (s2.trans s3).trans s4
    cases r1 with
    | nx e => exact fun σ' F' H' S' s' => ⟨F', e, S', sub1.trans s', ef2⟩
    | ct e => exact fun σ' F' H' S' s' => ⟨F', e, S', sub1.trans s', ef2⟩
    | bk e => cases ef2; exact fun σ' F' H' S' s' => k σ' F' H' S' (sub.trans s')
    | rt d e => cases ef2; exact fun v σ' F' H' S' s' => k v σ' F' H' S' (sub.trans s')
    | rn d e => cases ef2; exact fun v σ' F' H' S' s' => k v σ' F' H' S' (sub.trans s')
    | rm s0 d e => cases ef2; exact fun v L σ' F' H' S' s' => k v L σ' F' H' S' (sub.trans s')
    | xx x e => cases ef2; exact fun cls dd σ' F' H' S' s' => k cls dd σ' F' H' S' (sub.trans s')
end
end DL
namespace DL
open PySem L2
section
variable {K : Fg} {B : Bs} {F H : Hp} {σ : L2.St} {env : En}
def Bs.hold (B : Bs) (p : Addr) (o : HO) : Bs := { B with X := (p, o) :: B.X }
theorem Sl.hold (S : Sl K B F H σ env) {p : Addr} {o : HO} (h : H p = some o) (n : F p = none) (n0 : B.H0 p = none) (no : ∀ (i : Nat) (d : D), IsOw env i d → σ[i]? ≠ some (some (.ref p))) : Sl K (B.hold p o) F H σ env :=
  ⟨S.fh, S.len, S.fz, S.own, S.ap, S.pm, S.f0, S.nw, S.kp, S.lc, fun q hq => by
    rcases List.mem_cons.mp hq with rfl | hq
    · exact ⟨h, n, n0, no⟩
    · exact S.hx q hq, S.lk, S.tr, S.mr, S.gv, S.kt, ⟨S.tb.now, S.tb.at0, S.tb.nf⟩⟩
theorem Sl.unhold {p : Addr} {o : HO} (S : Sl K (B.hold p o) F H σ env) : Sl K B F H σ env :=
  ⟨S.fh, S.len, S.fz, S.own, S.ap, S.pm, S.f0, S.nw, S.kp, S.lc, fun q hq => S.hx q (List.mem_cons_of_mem _ hq), S.lk, S.tr, S.mr, S.gv, S.kt, ⟨S.tb.now, S.tb.at0, S.tb.nf⟩⟩
theorem Sl.held {p : Addr} {o : HO} (S : Sl K (B.hold p o) F H σ env) : H p = some o ∧ F p = none ∧ B.H0 p = none ∧ ∀ (i : Nat) (d : D), IsOw env i d → σ[i]? ≠ some (some (.ref p)) := S.hx (p, o) List.mem_cons_self
/-- what is held is changed -/
theorem Sl.rehold {p : Addr} {o u : HO} (S : Sl K (B.hold p o) F H σ env) (nx : ∀ q ∈ B.X, q.1 ≠ p) (no : ∀ ks : List Key, u ≠ .tup (ks.map kV) := by intro ks h; cases h) (ntc : ¬ TC o := by exact fun z => z) : Sl K (B.hold p u) F (upd H p u) σ env := by
  obtain ⟨h1, h2, h3, h4⟩ := S.held
  refine ⟨fun a v e => ?_, S.len, S.fz, fun i d e => ?_, S.ap, S.pm, S.f0, S.nw, fun a v a1 a2 a3 a9 => ?_, fun a ha => ?_, fun q hq => ?_, fun a ob v e h => S.lk a ob v e (by
    have ne : a ≠ p := by rintro rfl; rw [h2] at e; cases e
    rw [upd_ne ne] at h; exact h), fun i s d e => by
      obtain ⟨v, L, g1, g2, g3, g4⟩ := S.tr i s d e
      exact ⟨v, L, g1, g2, g3, fun q hq => ⟨by rw [upd_ne (ne_of_none (g4 q hq).2 h2)]; exact (g4 q hq).1, (g4 q hq).2⟩⟩, S.mr, fun a g => ⟨by
      by_cases z : a = p
      · subst z; rw [upd_same]; exact fun z => nomatch z
      · rw [upd_ne z]; exact (S.gv a g).1, (S.gv a g).2⟩, fun a ks h => by
      by_cases z : a = p
      · subst z; rw [upd_same] at h; exact absurd (Option.some.inj h) (no ks)
      · rw [upd_ne z] at h; exact S.kt a ks h, ⟨tabs_chg S.tb.now h1 ntc, S.tb.at0, S.tb.nf⟩⟩
  · have ne : a ≠ p := by rintro rfl; rw [h2] at e; cases e
    rw [upd_ne ne]; exact S.fh a v e
  · obtain ⟨q, g1, g2, g3, g4⟩ := S.own i d e
    have ne : q ≠ p := by rintro rfl; exact h4 i d e g1
    exact ⟨q, g1, g2, g3.mono (Sub.refl _) fun v hv => by rw [upd_ne ne]; exact hv, g4⟩
  · have ne : a ≠ p := by
      rintro rfl
      have a1 : B.H0 a = some v := a1
      rw [h3] at a1; cases a1
    rw [upd_ne ne]; exact S.kp a v a1 a2 a3 a9
  · obtain ⟨g1, g2⟩ := S.lc a ha
    exact ⟨by rw [upd_ne (fun z => by rw [z, h2] at g2; cases g2)]; exact g1, g2⟩
  · rcases List.mem_cons.mp hq with rfl | hq
    · exact ⟨upd_same, h2, h3, h4⟩
    · obtain ⟨g1, g2⟩ := S.hx q (List.mem_cons_of_mem _ hq)
      exact ⟨by rw [upd_ne (nx q hq)]; exact g1, g2⟩
end
def canWipe : Option Sv → Bool
  | some .un => true
  | some (.fz _) => true
  | _ => false
theorem canWipe_pw {env : En} {i : Nat} {d : D} (h : canWipe env[i]? = true) (o : IsPw env i d) : False := by
  rcases o with o | ⟨_, _, _, o⟩ <;> (rw [o] at h; cases h)
def wp : List Nat → En → En
  | [], env => env
  | v :: vs, env => (wp vs env).set v .un
def wipeE (vs : List Nat) (env : En) : Option En := if (vs.all fun j => canWipe env[j]?) = true then some (wp vs env) else none
def restore (vs : List Nat) (o e : En) : En := match vs with
  | [] => e
  | v :: vs => (restore vs o e).set v (o.getD v .un)
theorem wp_len (env : En) : ∀ vs : List Nat, (wp vs env).length = env.length
  | [] => rfl
  | v :: vs => by unfold wp; rw [List.length_set, wp_len env vs]
theorem wp_in {env : En} {j : Nat} : ∀ {vs : List Nat}, j ∈ vs → j < env.length → (wp vs env)[j]? = some .un
  | v :: vs, h, hl => by
    unfold wp
    by_cases e : j = v
    · subst e; rw [List.getElem?_set_self (by rw [wp_len]; exact hl)]
    · rw [List.getElem?_set_ne (Ne.symm e)]
      exact wp_in (by simpa [e] using h) hl
theorem wp_out {env : En} {j : Nat} : ∀ {vs : List Nat}, j ∉ vs → (wp vs env)[j]? = env[j]?
  | [], _ => rfl
  | v :: vs, h => by
    unfold wp
    rw [List.getElem?_set_ne (fun e => h (by rw [e]; exact List.mem_cons_self))]
    exact wp_out fun z => h (List.mem_cons_of_mem _ z)
theorem wipe_in {σ : L2.St} {j : Nat} : ∀ {vs : List Nat}, j ∈ vs → j < σ.length → (wipe σ vs)[j]? = some none
  | v :: vs, h, hl => by
    unfold wipe
    by_cases e : j = v
    · subst e; rw [List.getElem?_set_self (by rw [wipe_length]; exact hl)]
    · rw [List.getElem?_set_ne (Ne.symm e)]
      exact wipe_in (by simpa [e] using h) hl
theorem wipe_out {σ : L2.St} {j : Nat} : ∀ {vs : List Nat}, j ∉ vs → (wipe σ vs)[j]? = σ[j]?
  | [], _ => rfl
  | v :: vs, h => by
    unfold wipe
    rw [List.getElem?_set_ne (fun e => h (by rw [e]; exact List.mem_cons_self))]
    exact wipe_out fun z => h (List.mem_cons_of_mem _ z)
theorem wipe_but {σ σ' : L2.St} {vs ts : List Nat} (h : But ts (wipe σ vs) σ') (hs : ∀ j ∈ ts, j ∈ vs) : wipe σ' vs = wipe σ vs := by
  have hl : σ'.length = σ.length := by rw [h.1, wipe_length]
  apply List.ext_getElem?
  intro j
  by_cases hj : j ∈ vs
  · by_cases hb : j < σ.length
    · rw [wipe_in hj (by rw [hl]; exact hb), wipe_in hj hb]
    · rw [List.getElem?_eq_none (by rw [wipe_length, hl]; omega), List.getElem?_eq_none (by rw [wipe_length]; omega)]
  · rw [wipe_out hj, h.2 j fun z => hj (hs j z)]
theorem wipeE_inv {vs : List Nat} {env e : En} (h : wipeE vs env = some e) : (∀ j ∈ vs, canWipe env[j]? = true) ∧ e = wp vs env := by
  unfold wipeE at h
  split at h
  · rename_i q
    cases h
    exact ⟨fun j hj => List.all_eq_true.mp q j hj, rfl⟩
  · cases h
theorem restore_len (o e : En) : ∀ vs : List Nat, (restore vs o e).length = e.length
  | [] => rfl
  | v :: vs => by unfold restore; rw [List.length_set, restore_len o e vs]
theorem restore_in {o e : En} {j : Nat} : ∀ {vs : List Nat}, j ∈ vs → j < e.length → (restore vs o e)[j]? = some (o.getD j .un)
  | v :: vs, h, hl => by
    unfold restore
    by_cases q : j = v
    · subst q; rw [List.getElem?_set_self (by rw [restore_len]; exact hl)]
    · rw [List.getElem?_set_ne (Ne.symm q)]
      exact restore_in (by simpa [q] using h) hl
theorem restore_out {o e : En} {j : Nat} : ∀ {vs : List Nat}, j ∉ vs → (restore vs o e)[j]? = e[j]?
  | [], _ => rfl
  | v :: vs, h => by
    unfold restore
    rw [List.getElem?_set_ne (fun q => h (by rw [q]; exact List.mem_cons_self))]
    exact restore_out fun z => h (List.mem_cons_of_mem _ z)
section
variable {K : Fg} {B : Bs} {F H : Hp} {σ : L2.St} {env : En}
theorem canWipe_lt {j : Nat} (h : canWipe env[j]? = true) : j < env.length := by
  cases q : env[j]? with
  | none => rw [q] at h; cases h
  | some x => exact (List.getElem?_eq_some_iff.mp q).1
theorem canWipe_no {j : Nat} {d : D} (h : canWipe env[j]? = true) : ¬ IsOw env j d := fun o => by
  rcases o with o | o <;> (rw [o] at h; cases h)
theorem Sl.wipe (S : Sl K B F H σ env) {vs : List Nat} (hv : ∀ j ∈ vs, canWipe env[j]? = true) : Sl K B F H (L2.wipe σ vs) (wp vs env) := by
  have get : ∀ {j : Nat} {x : Sv}, (wp vs env)[j]? = some x → x ≠ .un → j ∉ vs ∧ env[j]? = some x := fun {j x} e nu => by
    by_cases hj : j ∈ vs
    · rw [wp_in hj (canWipe_lt (hv j hj))] at e
      cases e
      exact absurd rfl nu
    · rw [wp_out hj] at e
      exact ⟨hj, e⟩
  have ow : ∀ {j : Nat} {d : D}, IsOw (wp vs env) j d → j ∉ vs ∧ IsOw env j d := fun {j d} o => by
    rcases o with o | o
    · obtain ⟨a, b⟩ := get o (fun z => nomatch z)
      exact ⟨a, .inl b⟩
    · obtain ⟨a, b⟩ := get o (fun z => nomatch z)
      exact ⟨a, .inr b⟩
  refine ⟨S.fh, by rw [wp_len, wipe_length]; exact S.len, fun j d e => ?_, fun j d o => ?_, fun i j d e p a b c f => ?_, fun q hq => ?_, S.f0, S.nw, S.kp, S.lc, fun q hq => ?_, S.lk, fun j s d e => by
    rcases e with e | e
    · obtain ⟨a, b⟩ := get e (fun z => nomatch z)
      rw [wipe_out a]; exact S.tr j s d (.inl b)
    · obtain ⟨a, b⟩ := get e (fun z => nomatch z)
      rw [wipe_out a]; exact S.tr j s d (.inr b), S.mr, S.gv, S.kt, S.tb⟩
  · obtain ⟨a, b⟩ := get e (fun z => nomatch z)
    rw [wipe_out a]
    exact S.fz j d b
  · obtain ⟨a, b⟩ := ow o
    rw [wipe_out a]
    exact S.own j d b
  · obtain ⟨a1, a2⟩ := ow a
    obtain ⟨b1, b2⟩ := ow b
    rw [wipe_out a1] at c
    rw [wipe_out b1] at f
    exact S.ap i j d e p a2 b2 c f
  · obtain ⟨⟨d, h1⟩, h2⟩ := S.pm q hq
    have hn : q.1 ∉ vs := fun z => canWipe_pw (hv _ z) h1
    unfold IsPw
    rw [wp_out hn, wipe_out hn]
    exact ⟨⟨d, h1⟩, h2⟩
  · obtain ⟨g1, g2, g3, g4⟩ := S.hx q hq
    exact ⟨g1, g2, g3, fun j d o => by
      obtain ⟨a, b⟩ := ow o
      rw [wipe_out a]
      exact g4 j d b⟩
/-- behind the block: its names are what they were -/
theorem Sl.back {F' H' : Hp} {e : En} (S : Sl K B F H σ env) {vs : List Nat} (hv : ∀ j ∈ vs, canWipe env[j]? = true) (S' : Sl K B F' H' (L2.wipe σ vs) e) (s : Sub F F') : Sl K B F' H' σ (restore vs env e) ∧ ∀ (j : Nat) (d : D), IsOw (restore vs env e) j d → IsOw e j d ∧ (L2.wipe σ vs)[j]? = σ[j]? := by
  have ln : e.length = σ.length := by rw [S'.len, wipe_length]
  have get : ∀ {j : Nat} {x : Sv}, (restore vs env e)[j]? = some x → (j ∈ vs ∧ env[j]? = some x) ∨ (j ∉ vs ∧ e[j]? = some x) := fun {j x} q => by
    by_cases hj : j ∈ vs
    · have hl := canWipe_lt (hv j hj)
      rw [restore_in hj (by rw [ln, ← S.len]; exact hl)] at q
      refine .inl ⟨hj, ?_⟩
      rw [List.getD_eq_getElem?_getD, List.getElem?_eq_getElem hl] at q
      rw [List.getElem?_eq_getElem hl]
      exact q
    · rw [restore_out hj] at q
      exact .inr ⟨hj, q⟩
  have ow : ∀ {j : Nat} {d : D}, IsOw (restore vs env e) j d → j ∉ vs ∧ IsOw e j d := fun {j d} o => by
    rcases o with o | o
    · rcases get o with ⟨a, b⟩ | ⟨a, b⟩
      · exact absurd (.inl b) (canWipe_no (d := d) (hv j a))
      · exact ⟨a, .inl b⟩
    · rcases get o with ⟨a, b⟩ | ⟨a, b⟩
      · exact absurd (.inr b) (canWipe_no (d := d) (hv j a))
      · exact ⟨a, .inr b⟩
  refine ⟨⟨S'.fh, by rw [restore_len]; exact ln, fun j d q => ?_, fun j d o => ?_, fun i j d e p a b c f => ?_, fun q hq => ?_, S'.f0, S'.nw, S'.kp, S'.lc, fun q hq => ?_, S'.lk, fun j s d q => by
    rcases q with q | q
    · rcases get q with ⟨a, b⟩ | ⟨a, b⟩
      · have := hv j a; rw [b] at this; cases this
      · rw [← wipe_out a]; exact S'.tr j s d (.inl b)
    · rcases get q with ⟨a, b⟩ | ⟨a, b⟩
      · have := hv j a; rw [b] at this; cases this
      · rw [← wipe_out a]; exact S'.tr j s d (.inr b), S'.mr, S'.gv, S'.kt, S'.tb⟩, fun j d o => ⟨(ow o).2, wipe_out (ow o).1⟩⟩
  · rcases get q with ⟨a, b⟩ | ⟨a, b⟩
    · obtain ⟨v, h1, h2⟩ := S.fz j d b
      exact ⟨v, h1, h2.mono s⟩
    · rw [← wipe_out a]
      exact S'.fz j d b
  · obtain ⟨a, b⟩ := ow o
    rw [← wipe_out a]
    exact S'.own j d b
  · obtain ⟨a1, a2⟩ := ow a
    obtain ⟨b1, b2⟩ := ow b
    rw [← wipe_out a1] at c
    rw [← wipe_out b1] at f
    exact S'.ap i j d _ p a2 b2 c f
  · obtain ⟨⟨d, h1⟩, h2⟩ := S'.pm q hq
    obtain ⟨⟨d0, h3⟩, _⟩ := S.pm q hq
    have hn : q.1 ∉ vs := fun z => canWipe_pw (hv _ z) h3
    unfold IsPw
    rw [restore_out hn, ← wipe_out hn]
    exact ⟨⟨d, h1⟩, h2⟩
  · obtain ⟨g1, g2, g3, g4⟩ := S'.hx q hq
    exact ⟨g1, g2, g3, fun j d o => by
      obtain ⟨a, b⟩ := ow o
      rw [← wipe_out a]
      exact g4 j d b⟩
end
def bTrue : Bf := fun env => some (true, env)
def lcGo (vs : List Nat) (t : Tg) (c : Bf) (f : Df) : List D → En → Option (List D × En)
  | [], env => some ([], env)
  | d :: ds, env => (t d env).bind fun e1 => (c e1).bind fun b => if b.1 = true then (f b.2).bind fun x => (wipeE vs x.2).bind fun e => (lcGo vs t c f ds e).bind fun r => some (x.1 :: r.1, r.2) else (wipeE vs b.2).bind fun e => lcGo vs t c f ds e
def eLc (vs : List Nat) (t : Tg) (it : If) (c : Bf) (f : Df) : Df := fun env => (it env).bind fun r => if r.1.length < 100000 then (wipeE vs r.2).bind fun e => (lcGo vs t c f r.1 e).bind fun z => some (.list z.1, restore vs r.2 z.2) else none
theorem lc_le {K : Fg} {vs ts : List Nat} {t : Tg} {it : If} {c : Bf} {f : Df} (hs : ∀ j ∈ ts, j ∈ vs) : ∀ σ H Q, tN K (eLc vs t it c f) σ H Q → tLc (iD K it) (gD K t ts) (tT K c) (tD K f) vs σ H Q := fun σ H Q ⟨B, F, env, d, env', S, ef, k⟩ => by
  obtain ⟨⟨ds, e1⟩, q1, ef⟩ := bd ef
  by_cases hlen : ds.length < 100000
  rotate_left
  · rw [if_neg hlen] at ef; cases ef
  rw [if_pos hlen] at ef
  obtain ⟨e2, q2, ef⟩ := bd ef
  obtain ⟨⟨all, ez⟩, q3, ef⟩ := bd ef
  cases ef
  obtain ⟨hv, rfl⟩ := wipeE_inv q2
  refine ⟨B, F, env, ds, e1, S, q1, fun J F1 H1 S1 s1 W Dl hD => ?_⟩
  have nX := S1.neX hD
  refine ⟨fun i m H => m = ds.length - i ∧ i ≤ ds.length ∧ ∃ F2 en vacc acc rest, Sl K (B.hold Dl (.lst vacc)) F2 H (L2.wipe σ vs) en ∧ Sub F1 F2 ∧ DtA K F2 vacc acc ∧ vacc.length ≤ i ∧ lcGo vs t c f (ds.drop i) en = some (rest, ez) ∧ acc ++ rest = all,
    ⟨ds.length, by simp, Nat.zero_le _, F1, _, [], [], all, ?_, Sub.refl _, .nil, Nat.le_refl _, q3, rfl⟩, ?_⟩
  · refine ((S1.wipe hv).laid hD).hold upd_same (S1.fh.none hD) (S1.fresh hD) fun i d o => (S1.wipe hv).neOw hD o
  rintro i m H2 ⟨rfl, hi, F2, en, vacc, acc, rest, S2, s2, hda, hvl, e3, hall⟩
  obtain ⟨w1, w2⟩ := W S2 s2 i
  cases hd : ds[i]? with
  | none =>
    have hl : ds.length ≤ i := List.getElem?_eq_none_iff.mp hd
    rw [List.drop_eq_nil_of_le hl] at e3
    cases e3
    rw [List.append_nil] at hall
    subst hall
    refine .inl ⟨w2 (Nat.le_antisymm hl hi), ?_⟩
    obtain ⟨h1, h2, h3, h4⟩ := S2.held
    obtain ⟨S3, ow3⟩ := S1.back hv S2.unhold s2
    exact k Dl F2 H2 S3 (s1.trans s2) h2 h3 (fun j d o => by
      obtain ⟨a, b⟩ := ow3 j d o
      rw [← b]
      exact h4 j d a) nX ⟨vacc, h1, hda⟩
  | some d =>
    have hlt : i < ds.length := (List.getElem?_eq_some_iff.mp hd).1
    rw [drop_get hd] at e3
    obtain ⟨e4, q4, e3⟩ := bd (show (t d en).bind (fun e1 => (c e1).bind fun b => if b.1 = true then (f b.2).bind fun x => (wipeE vs x.2).bind fun e => (lcGo vs t c f (ds.drop (i + 1)) e).bind fun r => some (x.1 :: r.1, r.2) else (wipeE vs b.2).bind fun e => lcGo vs t c f (ds.drop (i + 1)) e) = some (rest, ez) from e3)
    obtain ⟨⟨b, e5⟩, q5, e3⟩ := bd e3
    obtain ⟨go, yl⟩ := w1 d hd
    refine .inr ⟨go, fun H => ∃ F2 en vacc acc rest, Sl K (B.hold Dl (.lst vacc)) F2 H (L2.wipe σ vs) en ∧ Sub F1 F2 ∧ DtA K F2 vacc acc ∧ vacc.length ≤ i + 1 ∧ lcGo vs t c f (ds.drop (i + 1)) en = some (rest, ez) ∧ acc ++ rest = all, fun H' hN => ⟨ds.length - (i + 1), by omega, rfl, hlt, hN⟩, fun x H' y => ?_⟩
    obtain ⟨F3, S3, s3, hx⟩ := yl x H' y
    refine ⟨B.hold Dl (.lst vacc), F3, en, d, e4, S3, hx, q4, fun σ4 F4 H4 S4 s4 but => ⟨wipe_but but hs, B.hold Dl (.lst vacc), F4, e4, b, e5, S4, q5, fun F5 H5 S5 s5 => ?_⟩⟩
    have hw := wipe_but but hs
    have s25 : Sub F2 F5 := (s3.trans s4).trans s5
    cases b with
    | false =>
      rw [if_neg Bool.false_ne_true] at e3
      refine iteF ?_
      obtain ⟨e6, q6, e3⟩ := bd e3
      obtain ⟨hv6, rfl⟩ := wipeE_inv q6
      exact ⟨F5, _, vacc, acc, rest, hw ▸ S5.wipe hv6, s2.trans s25, hda.mono s25, Nat.le_succ_of_le hvl, e3, hall⟩
    | true =>
      rw [if_pos rfl] at e3
      refine iteT ?_
      obtain ⟨⟨x', e6⟩, q6, e3⟩ := bd e3
      obtain ⟨e7, q7, e3⟩ := bd e3
      obtain ⟨⟨r1, ez'⟩, q8, e3⟩ := bd e3
      cases e3
      obtain ⟨hv7, rfl⟩ := wipeE_inv q7
      refine ⟨B.hold Dl (.lst vacc), F5, e5, x', e6, S5, q6, fun v F6 H6 S6 s6 hv6 => ?_⟩
      obtain ⟨g1, g2, g3, g4⟩ := S6.held
      refine ⟨vacc, g1, Nat.lt_of_le_of_lt (Nat.le_trans hvl (Nat.le_of_lt hlt)) (Nat.lt_of_lt_of_le hlen (by decide)), ?_⟩
      exact ⟨F6, _, vacc ++ [v], acc ++ [x'], r1, hw ▸ (S6.rehold (u := .lst (vacc ++ [v])) nX).wipe hv7, s2.trans (s25.trans s6), (hda.mono (s25.trans s6)).append (.cons hv6 .nil), by rw [List.length_append]; exact Nat.succ_le_succ hvl, q8, by rw [List.append_assoc]; exact hall⟩
section
variable {X : Cx} {Tb : TbT} {elt tg iter : Expr} {ifs : List Expr} {scope : Scope} {own : List (Str × Nat)} {pos : Pos}
theorem dts_nil : PTs X [] (tT (X.kg Tb) bTrue) := ⟨fun pins s σ H Q I h => by
  obtain ⟨B, F, env, b, env', S, ef, k⟩ := h
  cases ef
  exact pts_nil.run pins s σ H Q I (k F H S (Sub.refl F))⟩
theorem dts_one {c : Expr} {t : Bf} (h : PT X c (tT (X.kg Tb) t)) : PTs X [c] (tT (X.kg Tb) t) := pts_one h
theorem de_lc {t : Tg} {ts : List Nat} {it : If} {c : Bf} {f : Df} (hc : X.calm = true) (hN : X.N.Nodup) (hs' : ∀ j ∈ ts, j ∈ own.map (·.2)) (hi : PI X tg iter (iD (X.kg Tb) it)) (ok : BlkOk X.N X.env.scope scope own)
    (hg : ∀ (s : Shared) (H : Hp) (C : Addr) (cl : List (Str × Addr)) (fp : List Addr), PG (X.blk s H scope (compEnvC scope cl C X.env) fp) tg (gD (X.kg Tb) t ts)) (ht : ∀ (s : Shared) (H : Hp) (C : Addr) (cl : List (Str × Addr)) (fp : List Addr), PTs (X.blk s H scope (compEnvC scope cl C X.env) fp) ifs (tT (X.kg Tb) c))
    (he : ∀ (s : Shared) (H : Hp) (C : Addr) (cl : List (Str × Addr)) (fp : List Addr), PE (X.blk s H scope (compEnvC scope cl C X.env) fp) elt (tD (X.kg Tb) f)) (hs : ∀ x, foldedSetIterable iter X.env x = pure x := by intro _; rfl) :
    PE X (.ListComp elt [⟨tg, iter, ifs, 0⟩] scope pos) (tN (X.kg Tb) (eLc (own.map (·.2)) t it c f)) := PEi (pe_lc hc hN hi ok hg ht he hs) (lc_le hs')
theorem dS_setLc {wh : Wh} {i : Nat} {y : Str} {py spos : Pos} {t : Tg} {ts : List Nat} {it : If} {c : Bf} {f : Df} (hc : X.calm = true) (hN : X.N.Nodup) (hs' : ∀ j ∈ ts, j ∈ own.map (·.2)) (hsw : swapsWith (.ListComp elt [⟨tg, iter, ifs, 0⟩] scope pos) (some (.Name y py)) spos.line X.env = pure true) (hi : PI X tg iter (iD (X.kg Tb) it)) (ok : BlkOk X.N X.env.scope scope own)
    (hg : ∀ (s : Shared) (H : Hp) (C : Addr) (cl : List (Str × Addr)) (fp : List Addr), PG (X.blk s H scope (compEnvC scope cl C X.env) fp) tg (gD (X.kg Tb) t ts)) (ht : ∀ (s : Shared) (H : Hp) (C : Addr) (cl : List (Str × Addr)) (fp : List Addr), PTs (X.blk s H scope (compEnvC scope cl C X.env) fp) ifs (tT (X.kg Tb) c))
    (he : ∀ (s : Shared) (H : Hp) (C : Addr) (cl : List (Str × Addr)) (fp : List Addr), PE (X.blk s H scope (compEnvC scope cl C X.env) fp) elt (tD (X.kg Tb) f)) (hs : ∀ x, foldedSetIterable iter X.env x = pure x := by intro _; rfl)
    (hy : X.N[i]? = some y := by rfl) (hyl : X.env.scope.names.lookup y = some .local := by rfl) :
    PS X (.Assign [.Name y py] (.ListComp elt [⟨tg, iter, ifs, 0⟩] scope pos) spos) (tS (X.kg Tb) wh (sSetN i (eLc (own.map (·.2)) t it c f))) := PSi (ps_setLc hc hN hy hyl hsw hi ok hg ht he hs) fun E σ H ⟨B, F, env, r, S, ef, k⟩ => lc_le hs' σ H _ (by
  obtain ⟨⟨d, e1⟩, q, ef⟩ := bd ef
  obtain ⟨e2, q2, ef⟩ := bd ef
  cases ef
  obtain ⟨hi', np, rfl⟩ := put_inv q2
  exact ⟨B, F, env, d, e1, S, q, fun p F' H' S' s' n n0 no nx ho => k _ F' H' (S'.setO hi' np n n0 no nx ho) s'⟩)
end
end DL
namespace DL
open PySem L2
section
variable {K : Fg} {F H : Hp} {v : V}
theorem Bv.lst {ds : List D} (h : Bv K F H v (.list ds)) (l : Lk F H) : ∃ p vs, v = .ref p ∧ H p = some (.lst vs) ∧ DtA K F vs ds := by
  rcases h with h | ⟨p, rfl, _, vs, e, t⟩
  · cases h with
    | lst e t => exact ⟨_, _, rfl, l.lst e, t⟩
  · exact ⟨p, vs, rfl, e, t⟩
theorem Bv.tup {ds : List D} (h : Bv K F H v (.tuple ds)) (l : Lk F H) : ∃ p vs, v = .ref p ∧ F p = some (.tup vs) ∧ H p = some (.tup vs) ∧ DtA K F vs ds := by
  rcases h with h | ⟨p, rfl, _, z⟩
  · cases h with
    | tup e t => exact ⟨_, _, rfl, e, l.tup e, t⟩
  · exact z.elim
end
theorem szL {n : Nat} (h : n ≤ 100000) : n ≤ sizeLine := Nat.le_trans h (by decide)
theorem szL' {n : Nat} (h : n < 100000) : n < sizeLine := Nat.lt_of_lt_of_le h (by decide)
def gAdd : D → D → Option D
  | .int a, .int b => some (.int (a + b))
  | .tuple a, .tuple b => if a.length + b.length ≤ 100000 then some (.tuple (a ++ b)) else none
  | .list a, .list b => if a.length + b.length ≤ 100000 then some (.list (a ++ b)) else none
  | .str a, .str b => if a.length + b.length ≤ 100000 then some (.str (a ++ b)) else none
  | _, _ => none
def rStrCat : R2 := fun x y H Q => ∃ i j, x = .str i ∧ y = .str j ∧ i.length + j.length ≤ sizeLine ∧ Q (.str (i ++ j)) H
def rAddI : R2 := rI0 fun i j => .int (i + j)
def rAdds (K : Fr) : R2 := fun x y H Q => rAddI x y H Q ∨ rCatA K x y H Q ∨ rCat x y H Q ∨ rStrCat x y H Q
theorem op_adds {X : Cx} : OpR X (binaryOp .Add) (rAdds X.K) := OpR.or op_add (OpR.or op_catA (OpR.or op_cat op_add_str))
theorem ok_adds {K : Fg} : Ok2 K (rAdds K.fr) gAdd := fun {B F H σ env x y a b d Q} S ha hb e k => by
  unfold gAdd at e
  split at e
  · cases e
    exact .inl ⟨_, _, ha.int_inv, hb.int_inv, k _ F H S (Sub.refl _) (.int _)⟩
  · split at e
    · rename_i hl
      cases e
      obtain ⟨p, vs, rfl, f1, h1, t1⟩ := ha.tup S.fh
      obtain ⟨q, ws, rfl, f2, h2, t2⟩ := hb.tup S.fh
      refine .inr (.inl ⟨p, q, vs, ws, rfl, rfl, SqT.of h1, SqT.of h2, szL (by rw [t1.length, t2.length]; exact hl), fun e => ?_, fun e1 e => ?_, fun e1 e2 r hr => ?_⟩)
      · subst e; cases t1; exact k _ F H S (Sub.refl _) (.tup f2 t2)
      · subst e; cases t2; rw [List.append_nil] at k; exact k _ F H S (Sub.refl _) (.tup f1 t1)
      · exact k _ _ _ (S.new hr) (S.subNew hr) (.tup upd_same ((t1.append t2).mono (S.subNew hr)))
    · cases e
  · split at e
    · rename_i hl
      cases e
      obtain ⟨p, vs, rfl, h1, t1⟩ := ha.lst S.fh
      obtain ⟨q, ws, rfl, h2, t2⟩ := hb.lst S.fh
      refine .inr (.inr (.inl ⟨p, q, vs, ws, rfl, rfl, h1, h2, szL (by rw [t1.length, t2.length]; exact hl), fun r hr => ?_⟩))
      exact k _ _ _ (S.new hr) (S.subNew hr) (.lst upd_same ((t1.append t2).mono (S.subNew hr)))
    · cases e
  · split at e
    · rename_i hl
      cases e
      exact .inr (.inr (.inr ⟨_, _, ha.str_inv, hb.str_inv, szL hl, k _ F H S (Sub.refl _) (.str _)⟩))
    · cases e
  · cases e
theorem KN.at_new {K : Fg} {B : Bs} {F H : Hp} {σ : L2.St} {env : En} {d : D} {Q : VK} {p : Addr} {o : HO} (k : KN K B F σ env d Q) (S : Sl K B F H σ env) (n : H p = none) (ho : Own K F (upd H p o) p d) : Q (.ref p) (upd H p o) :=
  k p F (upd H p o) (S.laid n (fun ks z => (ho.notup (by rw [upd_same, z])).elim)) (Sub.refl _) (S.fh.none n) (S.fresh n) (fun i e o => S.neOw n o) (S.neX n) ho
def gInt2 (C : Int → Int → Bool) (g : Int → Int → Int) : D → D → Option D
  | .int a, .int b => if C a b = true then some (.int (g a b)) else none
  | _, _ => none
theorem ok_int2 {K : Fg} {P : Int → Int → Prop} {C : Int → Int → Bool} {g : Int → Int → Int} (h : ∀ i j, C i j = true → P i j) : Ok2 K (rI P fun i j => .int (g i j)) (gInt2 C g) := fun {B F H σ env x y a b d Q} S ha hb e k => by
  unfold gInt2 at e
  split at e
  · split at e
    · rename_i hc
      cases e
      exact ⟨_, _, ha.int_inv, hb.int_inv, h _ _ hc, k _ F H S (Sub.refl _) (.int _)⟩
    · cases e
  · cases e
def gSub : D → D → Option D
  | .int a, .int b => some (.int (a - b))
  | _, _ => none
theorem ok_sub {K : Fg} : Ok2 K (rI0 fun i j => .int (i - j)) gSub := fun {B F H σ env x y a b d Q} S ha hb e k => by
  unfold gSub at e
  split at e
  · cases e
    exact ⟨_, _, ha.int_inv, hb.int_inv, k _ F H S (Sub.refl _) (.int _)⟩
  · cases e
abbrev gMul := gInt2 (fun i j => (decide (-(2 ^ 64) < i) && decide (i < 2 ^ 64)) || (decide (-(2 ^ 64) < j) && decide (j < 2 ^ 64))) (fun i j => i * j)
theorem ok_mul {K : Fg} : Ok2 K (rI CMul fun i j => .int (i * j)) gMul := ok_int2 fun i j h => by
  simp only [Bool.or_eq_true, Bool.and_eq_true, decide_eq_true_eq] at h
  exact h
abbrev gMod := gInt2 (fun _ j => decide (0 < j)) (fun i j => i % j)
theorem ok_mod {K : Fg} : Ok2 K (rI (fun _ j => 0 < j) fun i j => .int (i % j)) gMod := ok_int2 fun i j h => of_decide_eq_true h
abbrev gDiv := gInt2 (fun _ j => decide (0 < j) && decide (j.natAbs.log2 < 9000)) (fun i j => i / j)
theorem ok_div {K : Fg} : Ok2 K (rI CDivW fun i j => .int (i / j)) gDiv := ok_int2 fun i j h => by
  simp only [Bool.and_eq_true, decide_eq_true_eq] at h
  exact h
abbrev gPow := gInt2 (fun i j => decide (0 ≤ j) && (decide (j ≤ 1000) && decide (i.natAbs < 2 ^ 64))) (fun i j => i ^ j.toNat)
theorem ok_pow {K : Fg} : Ok2 K (rI CPow fun i j => .int (i ^ j.toNat)) gPow := ok_int2 fun i j h => by
  simp only [Bool.and_eq_true, decide_eq_true_eq] at h
  obtain ⟨a, b, c⟩ := h
  exact ⟨a, Int.le_trans b (by decide), c⟩
def gNeg : D → Option D
  | .int a => some (.int (-a))
  | _ => none
def gCmp (p : Int → Int → Bool) : D → D → Option D
  | .int a, .int b => some (.bool (p a b))
  | _, _ => none
theorem ok_cmp {K : Fg} {p : Int → Int → Bool} : Ok2 K (rI0 fun i j => .bl (p i j)) (gCmp p) := fun {B F H σ env x y a b d Q} S ha hb e k => by
  unfold gCmp at e
  split at e
  · cases e
    exact ⟨_, _, ha.int_inv, hb.int_inv, k _ F H S (Sub.refl _) (.bl _)⟩
  · cases e
abbrev gLt := gCmp fun i j => decide (i < j)
abbrev gLe := gCmp fun i j => decide (i ≤ j)
abbrev gGt := gCmp fun i j => decide (j < i)
abbrev gGe := gCmp fun i j => decide (j ≤ i)
mutual
def noDct : D → Bool
  | .list ds => noDcts ds
  | .tuple ds => noDcts ds
  | .dict _ => false
  | _ => true
def noDcts : List D → Bool
  | [] => true
  | d :: ds => noDct d && noDcts ds
end
mutual
theorem Dt.dp {K : Fg} {F H : Hp} (l : Lk F H) : ∀ {v : V} {d : D}, Dt K F v d → noDct d = true → Dp K.fr H v d
  | _, _, .non, _ => .non
  | _, _, .bl b, _ => .bl b
  | _, _, .int b, _ => .int b
  | _, _, .str b, _ => .str b
  | _, _, .lst h t, n => .lst (SqL.of (l.lst h)) (t.dp l (by simpa [noDct] using n))
  | _, _, .tup h t, n => .tup (SqT.of (l.tup h)) (t.dp l (by simpa [noDct] using n))
  | _, _, .scr h, n => by simp [noDct] at n
  | _, _, .dk h t, n => by simp [noDct] at n
  | _, _, .dt h t, n => by simp [noDct] at n
theorem DtA.dp {K : Fg} {F H : Hp} (l : Lk F H) : ∀ {v : List V} {d : List D}, DtA K F v d → noDcts d = true → DpAll K.fr H v d
  | _, _, .nil, _ => .nil
  | _, _, .cons h t, n => by
    simp only [noDcts, Bool.and_eq_true] at n
    exact .cons (h.dp l n.1) (t.dp l n.2)
end
theorem Bv.dp {K : Fg} {F H : Hp} {v : V} {d : D} (h : Bv K F H v d) (l : Lk F H) (n : noDct d = true) : Dp K.fr H v d := by
  rcases h with h | ⟨p, rfl, _, ho⟩
  · exact h.dp l n
  · cases d with
    | list ds => obtain ⟨vs, e, t⟩ := ho; exact .lst (SqL.of e) (t.dp l (by simpa [noDct] using n))
    | dict es => simp [noDct] at n
    | _ => exact ho.elim
def gEqq (n : Bool) : D → D → Option D := fun a b => if (noDct a && SeqAt.shaped a && (noDct b && SeqAt.shaped b)) = true then some (.bool (xor n (PyData.eqv a b))) else match a, b with
  | .str x, .str y => some (.bool (xor n (x == y)))
  | _, _ => none
def gEq : D → D → Option D := gEqq false
def gNe : D → D → Option D := gEqq true
def rEqs (K : Fr) : R2 := fun x y H Q => rEqD K x y H Q ∨ rEq x y H Q
def rNes (K : Fr) : R2 := fun x y H Q => rNeD K x y H Q ∨ rNe x y H Q
theorem op_eqs {X : Cx} (hu : X.A.units + 64 < cLine) : OpR X (compareOp .Eq) (rEqs X.K) := OpR.or (op_eqD hu) op_eq
theorem op_nes {X : Cx} (hu : X.A.units + 64 < cLine) : OpR X (compareOp .NotEq) (rNes X.K) := OpR.or (op_neD hu) op_ne
theorem ok_eq {K : Fg} : Ok2 K (rEqs K.fr) gEq := fun {B F H σ env x y a b d Q} S ha hb e k => by
  unfold gEq gEqq at e
  split at e
  · rename_i h
    cases e
    simp only [Bool.and_eq_true] at h
    exact .inl ⟨_, _, ha.dp S.fh h.1.1, hb.dp S.fh h.2.1, h.1.2, h.2.2, by simpa using k _ F H S (Sub.refl _) (.bl _)⟩
  · split at e
    · cases e
      rw [ha.str_inv, hb.str_inv]
      exact .inr ⟨rfl, by rw [dec_str]; simpa using k _ F H S (Sub.refl _) (.bl _)⟩
    · cases e
theorem ok_ne {K : Fg} : Ok2 K (rNes K.fr) gNe := fun {B F H σ env x y a b d Q} S ha hb e k => by
  unfold gNe gEqq at e
  split at e
  · rename_i h
    cases e
    simp only [Bool.and_eq_true] at h
    exact .inl ⟨_, _, ha.dp S.fh h.1.1, hb.dp S.fh h.2.1, h.1.2, h.2.2, by simpa using k _ F H S (Sub.refl _) (.bl _)⟩
  · split at e
    · cases e
      rw [ha.str_inv, hb.str_inv]
      exact .inr ⟨rfl, by rw [dec_str]; simpa using k _ F H S (Sub.refl _) (.bl _)⟩
    · cases e
def tyN : D → String
  | .none => "NoneType"
  | .bool _ => "bool"
  | .int _ => "int"
  | .str _ => "str"
  | .list _ => "list"
  | .tuple _ => "tuple"
  | .dict _ => "dict"
/-- is an object of the class named T one of U -/
def isT (T U : String) : Bool := T == U || (T == "bool" && U == "int")
/-- data whose class is told -/
def plainTy : D → Bool
  | .dict [] => true
  | .dict ((.int _, _) :: _) => true
  | .dict ((.str _, _) :: _) => true
  | .dict _ => false
  | _ => true
def gIsi (U : String) : D → Option D := fun d => if plainTy d = true then some (.bool (isT (tyN d) U)) else none
theorem Bv.tyX {K : Fg} {F H : Hp} {v : V} {d : D} (h : Bv K F H v d) (l : Lk F H) (n : plainTy d = true) : TyX K.fr H v (.type (tyN d)) := by
  cases d with
  | none => rw [h.none_inv]; exact .base .non
  | bool b => rw [h.bool_inv]; exact .base (.bl b)
  | int b => rw [h.int_inv]; exact .base (.int b)
  | str b => rw [h.str_inv]; exact .base (.str b)
  | list ds => obtain ⟨p, vs, rfl, e, _⟩ := h.lst l; exact .base (.lst e)
  | tuple ds => obtain ⟨p, vs, rfl, _, e, _⟩ := h.tup l; exact .base (.tup e)
  | dict es =>
    rcases h with h | ⟨p, rfl, _, ho⟩
    · cases h with
      | scr _ => cases n
      | dk e t =>
        rcases l _ _ e with q | ⟨_, ob, q⟩ | ⟨z, _⟩
        · exact .base (.dK q)
        · exact .fDict q
        · cases z
      | dt e t => cases n
      | exc _ _ => cases n
      | exf _ _ _ _ => cases n
      | fn _ => cases n
      | ins _ _ _ => cases n
    · rcases ho with ⟨kvs, e, _⟩ | ⟨kvs, es', rfl, e, _⟩ | ⟨_, _, _, _, _, rfl, _⟩
      · exact .base (.dK e)
      · cases n
      · cases n
/-- the classes that are asked for -/
def knownTy (U : String) : Bool := ["NoneType", "bool", "int", "str", "list", "tuple", "dict"].all fun T => kitB T U == some (isT T U)
theorem kit_known {U : String} (h : knownTy U = true) (d : D) : kitB (tyN d) U = some (isT (tyN d) U) := by
  have h := List.all_eq_true.mp h
  have q : ∀ T, T ∈ ["NoneType", "bool", "int", "str", "list", "tuple", "dict"] → kitB T U = some (isT T U) := fun T hT => beq_iff_eq.mp (h T hT)
  cases d <;> exact q _ (by simp [tyN])
section
variable {X : Cx} {Tb : TbT} {e a b : Expr} {pos : Pos}
theorem de_isi {T : Str} {U : String} {p q : Pos} {o : Opd} (hk : knownTy U = true) (hg : Gl X "isinstance") (hm : X.mg "isinstance" = none) (ha : PE X e (tO (X.kg Tb) o)) (hgT : Gl X T) (hmT : X.mg T = none) (hvT : bootBuiltins T = some (.type U))
    (hnT : T ≠ "__name__" := by decide) (hdT : (T == ("__debug__" : Str)) = false := by decide) (he : starEach [e, .Name T q] X.env = [(false, eval e X.env), (false, eval (.Name T q) X.env)] := by rfl) (he2 : starEach [.Name T q] X.env = [(false, eval (.Name T q) X.env)] := by rfl)
    (hpl : (backTo pos (starEach [.Name T q] X.env)).any (·.1) = false := by rfl) : PE X (.Call (.Name "isinstance" p) [e, .Name T q] [] pos) (tD (X.kg Tb) (op1 (gIsi U) o)) :=
  PEi (pe_callB call_isi hg hm PyProof.Rows.boot_isinstance (pa_cons ha (pa_cons (pe_bltn (v := .ty U) hgT hmT hvT rfl hnT hdT) pa_nil he2) (by rw [he, he2])) (by decide) (by decide) (by rw [he, he2]) hpl) fun σ H Q ⟨B, F, env, d, env', S, ef, k⟩ => by
    obtain ⟨⟨u, e1⟩, q1, ef⟩ := bd ef
    obtain ⟨x, q2, ef⟩ := bd ef
    obtain ⟨d', q3, ef⟩ := bd ef
    cases ef
    unfold gIsi at q3
    split at q3
    · rename_i hp
      cases q3
      exact ⟨B, F, env, u, _, S, q1, fun v F1 H1 S1 s1 h1 => ⟨v, .ty U, .type (tyN x), .type U, _, rfl, .ty U, (h1.bv S1 q2).tyX S1.fh hp, kit_ty (kit_known hk x), k _ F1 H1 S1 s1 (.bl _)⟩⟩
    · cases q3
end
end DL
namespace DL
open PySem L2
theorem DtK.key {K : Fg} {F : Hp} : ∀ {kvs : List (Key × V)} {es : List (D × D)}, DtK K F kvs es → ∀ q ∈ es, ∃ k, q.1 = kD k
  | _, _, .nil, q, h => nomatch h
  | _, _, .cons _ t, q, h => by
    rcases List.mem_cons.mp h with rfl | h
    · exact ⟨_, rfl⟩
    · exact t.key q h
theorem DtT.key {K : Fg} {F : Hp} : ∀ {kvs : List (List Key × V)} {es : List (D × D)}, DtT K F kvs es → ∀ q ∈ es, ∃ k : List Key, q.1 = .tuple (k.map kD)
  | _, _, .nil, q, h => nomatch h
  | _, _, .cons _ t, q, h => by
    rcases List.mem_cons.mp h with rfl | h
    · exact ⟨_, rfl⟩
    · exact t.key q h
def gLen : List D → Option D
  | [.list ds] => some (.int ds.length)
  | [.tuple ds] => some (.int ds.length)
  | [.str x] => if x.length ≤ 100000 then some (.int x.length) else none
  | [.dict [(.none, .list ds)]] => some (.int ds.length)
  | _ => none
def rLen1 (K : Fr) : List V → Hp → VK → Prop := fun xs H Q => ∃ x n, xs = [x] ∧ LenV K x H n ∧ Q (.int n) H
theorem call_len1 {X : Cx} : CallR X (.builtin "len") (rLen1 X.K) := call_len
theorem kD_none {k : Key} (h : (PyData.none : D) = kD k) : False := by
  cases k <;> cases h
theorem Bv.scr {K : Fg} {F H : Hp} {v : V} {ds : List D} (h : Bv K F H v (.dict [(.none, .list ds)])) (l : Lk F H) : ∃ (p : Addr) (ns : List Int), v = .ref p ∧ SqL K.fr H p (ns.map V.int) ∧ ds = ns.map .int := by
  rcases h with h | ⟨p, rfl, _, ho⟩
  · cases h with
    | scr h => exact ⟨_, _, rfl, l.sqL h, rfl⟩
    | dk e t =>
      obtain ⟨k, q⟩ := t.key _ List.mem_cons_self
      exact (kD_none q).elim
  · rcases ho with ⟨kvs, e, t⟩ | ⟨kvs, es', e0, e, t⟩ | ⟨_, _, _, _, _, e0, _⟩
    · obtain ⟨k, q⟩ := t.key _ List.mem_cons_self
      exact (kD_none q).elim
    · cases e0
    · cases e0
theorem ok_len {K : Fg} : OkA K (rLen1 K.fr) gLen := fun {B F H σ env xs ds d Q} S h e k => by
  unfold gLen at e
  split at e
  · cases e
    obtain ⟨v, rfl, h0⟩ := h.one
    obtain ⟨p, vs, rfl, hp, t⟩ := h0.lst S.fh
    refine ⟨_, _, rfl, .inl ⟨vs, SqL.of hp, rfl⟩, ?_⟩
    rw [t.length]
    exact k _ F H S (Sub.refl _) (.int _)
  · cases e
    obtain ⟨v, rfl, h0⟩ := h.one
    obtain ⟨p, vs, rfl, _, hp, t⟩ := h0.tup S.fh
    refine ⟨_, _, rfl, .inr ⟨vs, SqT.of hp, rfl⟩, ?_⟩
    rw [t.length]
    exact k _ F H S (Sub.refl _) (.int _)
  · split at e
    · rename_i hl
      cases e
      obtain ⟨v, rfl, h0⟩ := h.one
      rw [h0.str_inv]
      exact ⟨_, _, rfl, ⟨szL hl, rfl⟩, k _ F H S (Sub.refl _) (.int _)⟩
    · cases e
  · cases e
    obtain ⟨v, rfl, h0⟩ := h.one
    obtain ⟨p, ns, rfl, hp, rfl⟩ := h0.scr S.fh
    refine ⟨_, _, rfl, .inl ⟨_, hp, rfl⟩, ?_⟩
    rw [List.length_map]
    rw [List.length_map] at k
    exact k _ F H S (Sub.refl _) (.int _)
  · cases e
def boolsOf : List D → Option (List Bool)
  | [] => some []
  | .bool b :: r => (boolsOf r).bind fun bs => some (b :: bs)
  | _ :: _ => none
theorem bools_vals {K : Fg} {F : Hp} : ∀ {ds : List D} {vs : List V} {bs : List Bool}, DtA K F vs ds → boolsOf ds = some bs → vs = bs.map V.bl
  | [], _, _, .nil, e => by cases e; rfl
  | .bool b :: r, _, bs, .cons h t, e => by
    obtain ⟨bs', q, e⟩ := bd (show (boolsOf r).bind (fun bs => some (b :: bs)) = some bs from e)
    cases e
    rw [h.bool_inv, bools_vals t q]
    rfl
  | .none :: _, _, _, _, e => by cases e
  | .int _ :: _, _, _, _, e => by cases e
  | .str _ :: _, _, _, _, e => by cases e
  | .list _ :: _, _, _, _, e => by cases e
  | .tuple _ :: _, _, _, _, e => by cases e
  | .dict _ :: _, _, _, _, e => by cases e
def gAll : List D → Option D
  | [.list ds] => (boolsOf ds).bind fun bs => some (.bool (bs.all id))
  | _ => none
theorem ok_all {K : Fg} : OkA K (rAll K.fr) gAll := fun {B F H σ env xs ds d Q} S h e k => by
  unfold gAll at e
  split at e
  · obtain ⟨bs, q, e⟩ := bd e
    cases e
    obtain ⟨v, rfl, h0⟩ := h.one
    obtain ⟨p, vs, rfl, hp, t⟩ := h0.lst S.fh
    exact ⟨p, bs, rfl, by rw [← bools_vals t q]; exact SqL.of hp, k _ F H S (Sub.refl _) (.bl _)⟩
  · cases e
def gMax2 : List D → Option D
  | [.int i, .int j] => some (.int (if j > i then j else i))
  | _ => none
def gMin2 : List D → Option D
  | [.int i, .int j] => some (.int (if j < i then j else i))
  | _ => none
def rMax2' : List V → Hp → VK → Prop := fun xs H Q => ∃ i j, xs = [.int i, .int j] ∧ Q (.int (if j > i then j else i)) H
def rMin2' : List V → Hp → VK → Prop := fun xs H Q => ∃ i j, xs = [.int i, .int j] ∧ Q (.int (if j < i then j else i)) H
theorem ok_max2 {K : Fg} : OkA K rMax2' gMax2 := fun {B F H σ env xs ds d Q} S h e k => by
  unfold gMax2 at e
  split at e
  · cases e
    obtain ⟨v, w, rfl, h1, h2⟩ := h.two
    exact ⟨_, _, by rw [h1.int_inv, h2.int_inv], k _ F H S (Sub.refl _) (.int _)⟩
  · cases e
theorem ok_min2 {K : Fg} : OkA K rMin2' gMin2 := fun {B F H σ env xs ds d Q} S h e k => by
  unfold gMin2 at e
  split at e
  · cases e
    obtain ⟨v, w, rfl, h1, h2⟩ := h.two
    exact ⟨_, _, by rw [h1.int_inv, h2.int_inv], k _ F H S (Sub.refl _) (.int _)⟩
  · cases e
def gInt : List D → Option D
  | [.int i] => some (.int i)
  | [.bool b] => some (.int (if b then 1 else 0))
  | _ => none
def rInt1 : List V → Hp → VK → Prop := fun xs H Q => (∃ i, xs = [.int i] ∧ Q (.int i) H) ∨ ∃ k, xs = [.bl k] ∧ Q (.int (if k then 1 else 0)) H
theorem ok_int {K : Fg} : OkA K rInt1 gInt := fun {B F H σ env xs ds d Q} S h e k => by
  unfold gInt at e
  split at e
  · cases e
    obtain ⟨v, rfl, h0⟩ := h.one
    exact .inl ⟨_, by rw [h0.int_inv], k _ F H S (Sub.refl _) (.int _)⟩
  · cases e
    obtain ⟨v, rfl, h0⟩ := h.one
    exact .inr ⟨_, by rw [h0.bool_inv], k _ F H S (Sub.refl _) (.int _)⟩
  · cases e
def gList : List D → Option D
  | [.list ds] => some (.list ds)
  | [.tuple ds] => some (.list ds)
  | _ => none
def gTuple : List D → Option D
  | [.list ds] => some (.tuple ds)
  | [.tuple ds] => some (.tuple ds)
  | _ => none
def rTupOf (K : Fr) : List V → Hp → VK → Prop := fun xs H Q => ∃ p ys, xs = [.ref p] ∧ ((SqL K H p ys ∧ ∀ l, H l = none → Q (.ref l) (upd H l (.tup ys))) ∨ (SqT K H p ys ∧ Q (.ref p) H))
theorem ok_tuple {K : Fg} : OkA K (rTupOf K.fr) gTuple := fun {B F H σ env xs ds d Q} S h e k => by
  unfold gTuple at e
  split at e
  · cases e
    obtain ⟨v, rfl, h0⟩ := h.one
    obtain ⟨p, vs, rfl, hp, t⟩ := h0.lst S.fh
    exact ⟨p, vs, rfl, .inl ⟨SqL.of hp, fun r hr => k _ _ _ (S.new hr) (S.subNew hr) (.tup upd_same (t.mono (S.subNew hr)))⟩⟩
  · cases e
    obtain ⟨v, rfl, h0⟩ := h.one
    obtain ⟨p, vs, rfl, f, hp, t⟩ := h0.tup S.fh
    exact ⟨p, vs, rfl, .inr ⟨SqT.of hp, k _ F H S (Sub.refl _) (.tup f t)⟩⟩
  · cases e
def gIx : D → D → Option D
  | .list ds, .int i => atI ds i
  | .tuple ds, .int i => atI ds i
  | .dict [(.none, .list ds)], .int i => atI ds i
  | .str z, .int i => if z.length ≤ 100000 then (atI z.cps.toList i).bind fun c => some (.str ⟨#[c]⟩) else none
  | _, _ => none
theorem DtA.at {K : Fg} {F : Hp} {vs : List V} {ds : List D} {i : Int} {d : D} (t : DtA K F vs ds) (h : atI ds i = some d) : ∃ v, atI vs i = some v ∧ Dt K F v d := by
  unfold atI at h ⊢
  rw [t.length]
  obtain ⟨j, q, h⟩ := bd h
  rw [q]
  exact t.get h
theorem ok_ix {K : Fg} : Ok2 K (rIx K.fr) gIx := fun {B F H σ env x y a b d Q} S ha hb e k => by
  unfold gIx at e
  split at e
  · obtain ⟨p, vs, rfl, hp, t⟩ := ha.lst S.fh
    obtain ⟨v, h1, h2⟩ := t.at e
    exact .inl ⟨p, vs, _, v, rfl, hb.int_inv, SqL.of hp, h1, k _ F H S (Sub.refl _) h2⟩
  · obtain ⟨p, vs, rfl, _, hp, t⟩ := ha.tup S.fh
    obtain ⟨v, h1, h2⟩ := t.at e
    exact .inr (.inl ⟨p, vs, _, v, rfl, hb.int_inv, SqT.of hp, h1, k _ F H S (Sub.refl _) h2⟩)
  · obtain ⟨p, ns, rfl, hp, rfl⟩ := ha.scr S.fh
    have t : DtA K F (ns.map V.int) (ns.map .int) := by
      clear hp e k ha
      induction ns with
      | nil => exact .nil
      | cons n r ih => exact .cons (.int n) ih
    obtain ⟨v, h1, h2⟩ := t.at e
    exact .inl ⟨p, _, _, v, rfl, hb.int_inv, hp, h1, k _ F H S (Sub.refl _) h2⟩
  · split at e
    · rename_i hl
      obtain ⟨c, q, e⟩ := bd e
      cases e
      exact .inr (.inr ⟨_, _, c, ha.str_inv, hb.int_inv, szL hl, q, k _ F H S (Sub.refl _) (.str _)⟩)
    · cases e
  · cases e
def cutD (xs : List D) (lo hi : Option Int) : List D := (xs.drop (HT.sIx xs.length 0 lo)).take (HT.sIx xs.length xs.length hi - HT.sIx xs.length 0 lo)
theorem DtA.cut {K : Fg} {F : Hp} {vs : List V} {ds : List D} (t : DtA K F vs ds) (lo hi : Option Int) : DtA K F (cutV vs lo hi) (cutD ds lo hi) := by
  unfold cutV cutD
  rw [t.length]
  exact (t.drop _).take _
/-- a slice's part -/
abbrev Pf := En → Option (Option Int × En)
def pNo : Pf := fun env => some (none, env)
def pAt (f : Df) : Pf := fun env => (f env).bind fun r => match r.1 with
  | .int i => some (some i, r.2)
  | _ => none
def tP (K : Fg) (f : Pf) : TO := fun σ H Q => ∃ B F env o env', Sl K B F H σ env ∧ f env = some (o, env') ∧ ∀ F' H', Sl K B F' H' σ env' → Sub F F' → Q o H'
def eSlice (g : D → Option Int → Option Int → Option D) (a : Opd) (lo hi : Pf) : Df := fun env => (a.ev env).bind fun r => (lo r.2).bind fun l => (hi l.2).bind fun h => (r.1.look h.2).bind fun x => (g x l.1 h.1).bind fun d => some (d, h.2)
def gCut : D → Option Int → Option Int → Option D
  | .list ds, lo, hi => some (.list (cutD ds lo hi))
  | .tuple ds, lo, hi => some (.tuple (cutD ds lo hi))
  | _, _, _ => none
theorem cut_whole {xs : List D} {lo hi : Option Int} (h : HT.sIx xs.length 0 lo = 0 ∧ HT.sIx xs.length xs.length hi = xs.length) : cutD xs lo hi = xs := by
  unfold cutD
  rw [h.1, h.2]
  simp
section
variable {X : Cx} {Tb : TbT} {e a b : Expr} {es : List Expr} {lo hi : Option Expr} {p2 pos : Pos}
theorem dp_none : PO X none (tP (X.kg Tb) pNo) := ⟨fun pins s σ H Q I h => by
  obtain ⟨B, F, env, o, env', S, ef, k⟩ := h
  cases ef
  exact po_none.run pins s σ H Q I (k F H S (Sub.refl F))⟩
theorem dp_some {f : Df} (h : PE X e (tD (X.kg Tb) f)) : PO X (some e) (tP (X.kg Tb) (pAt f)) := ⟨fun pins s σ H Q I hw => by
  obtain ⟨B, F, env, o, env', S, ef, k⟩ := hw
  obtain ⟨⟨d, e1⟩, q, ef⟩ := bd ef
  cases d <;> first | (cases ef; done) | skip
  cases ef
  exact (po_some h).run pins s σ H Q I ⟨B, F, env, _, _, S, q, fun v F' H' S' s' hd => ⟨_, hd.int_inv, k F' H' S' s'⟩⟩⟩
theorem de_slice {oa : Opd} {fl fh : Pf} (ha : PE X a (tO (X.kg Tb) oa)) (hl : PO X lo (tP (X.kg Tb) fl)) (hh : PO X hi (tP (X.kg Tb) fh)) : PE X (.Subscript a (.Slice lo hi none p2) pos) (tD (X.kg Tb) (eSlice gCut oa fl fh)) :=
  PEi (pe_slice (SlR.or sl_list sl_tupA) ha hl hh) fun σ H Q ⟨B, F, env, d, env', S, ef, k⟩ => by
    obtain ⟨⟨u, e1⟩, q1, ef⟩ := bd ef
    obtain ⟨⟨l, e2⟩, q2, ef⟩ := bd ef
    obtain ⟨⟨h, e3⟩, q3, ef⟩ := bd ef
    obtain ⟨x, q4, ef⟩ := bd ef
    obtain ⟨d', q5, ef⟩ := bd ef
    cases ef
    refine ⟨B, F, env, u, e1, S, q1, fun v F1 H1 S1 s1 h1 => ⟨B, F1, e1, l, e2, S1, q2, fun F2 H2 S2 s2 => ⟨B, F2, e2, h, _, S2, q3, fun F3 H3 S3 s3 => ?_⟩⟩⟩
    have hx := ((h1.mono s2).mono s3).bv S3 q4
    have ss : Sub F F3 := (s1.trans s2).trans s3
    unfold gCut at q5
    split at q5
    · cases q5
      obtain ⟨p, vs, rfl, hp, t⟩ := hx.lst S3.fh
      exact .inl ⟨p, vs, rfl, SqL.of hp, fun r hr => k _ _ _ (S3.new hr) (ss.trans (S3.subNew hr)) (.lst upd_same ((t.cut l h).mono (S3.subNew hr)))⟩
    · rename_i ds
      cases q5
      obtain ⟨p, vs, rfl, f, hp, t⟩ := hx.tup S3.fh
      refine .inr ⟨p, vs, rfl, SqT.of hp, fun w => ?_, fun _ r hr => k _ _ _ (S3.new hr) (ss.trans (S3.subNew hr)) (.tup upd_same ((t.cut l h).mono (S3.subNew hr)))⟩
      rw [t.length] at w
      rw [cut_whole w] at k
      exact k _ F3 H3 S3 ss (.tup f t)
    · cases q5
end
def fzAll : List OV → Option (List D)
  | [] => some []
  | .fz d :: r => (fzAll r).bind fun ds => some (d :: ds)
  | .sl _ :: _ => none
theorem fzAll_dt {K : Fg} {F : Hp} {σ : L2.St} : ∀ {us : List OV} {vs : List V} {ds : List D}, OVA K F σ us vs → fzAll us = some ds → DtA K F vs ds
  | [], [], _, _, e => by cases e; exact .nil
  | .fz d :: us, v :: vs, ds, h, e => by
    obtain ⟨ds', q, e⟩ := bd (show (fzAll us).bind (fun ds => some (d :: ds)) = some ds from e)
    cases e
    exact .cons h.1 (fzAll_dt h.2 q)
  | .sl _ :: _, _, _, _, e => by cases e
  | [], _ :: _, _, h, _ => h.elim
  | .fz _ :: _, [], _, h, _ => h.elim
def eTup (os : List Opd) : Df := fun env => (evs os env).bind fun r => (fzAll r.1).bind fun ds => if ds.length ≤ 100000 then some (.tuple ds, r.2) else none
def eLst (os : List Opd) : Df := fun env => (evs os env).bind fun r => (fzAll r.1).bind fun ds => if ds.length ≤ 100000 then some (.list ds, r.2) else none
section
variable {X : Cx} {Tb : TbT} {e a b : Expr} {es : List Expr} {pos : Pos}
theorem de_tup {os : List Opd} {x1 : Nat} (h : PA X es (tAr (X.kg Tb) os)) : PE X (.Tuple es x1 pos) (tD (X.kg Tb) (eTup os)) := PEi (pe_tup h) fun σ H Q ⟨B, F, env, d, env', S, ef, k⟩ => by
  obtain ⟨⟨us, e1⟩, q1, ef⟩ := bd ef
  obtain ⟨ds, q2, ef⟩ := bd ef
  by_cases hl : ds.length ≤ 100000
  · rw [if_pos hl] at ef
    cases ef
    refine ⟨B, F, env, us, _, S, q1, fun vs F1 H1 S1 s1 h1 => ?_⟩
    have t := fzAll_dt h1 q2
    exact ⟨szL (by rw [t.length]; exact hl), fun p hp => k _ _ _ (S1.new hp) (s1.trans (S1.subNew hp)) (.tup upd_same (t.mono (S1.subNew hp)))⟩
  · rw [if_neg hl] at ef; cases ef
theorem de_lst {os : List Opd} (h : PA X es (tAr (X.kg Tb) os)) : PE X (.List es pos) (tN (X.kg Tb) (eLst os)) := PEi (pe_lst h) fun σ H Q ⟨B, F, env, d, env', S, ef, k⟩ => by
  obtain ⟨⟨us, e1⟩, q1, ef⟩ := bd ef
  obtain ⟨ds, q2, ef⟩ := bd ef
  by_cases hl : ds.length ≤ 100000
  · rw [if_pos hl] at ef
    cases ef
    refine ⟨B, F, env, us, _, S, q1, fun vs F1 H1 S1 s1 h1 => ?_⟩
    have t := fzAll_dt h1 q2
    refine ⟨szL (by rw [t.length]; exact hl), fun p hp => ?_⟩
    have kk : KN (X.kg Tb) B F1 σ _ (.list ds) Q := fun p' F' H' S' s' a1 a2 a3 a4 a5 => k p' F' H' S' (s1.trans s') a1 a2 a3 a4 a5
    exact kk.at_new S1 hp ⟨_, upd_same, t⟩
  · rw [if_neg hl] at ef; cases ef
end
def chgAt (i : Nat) (g : D → Option D) (env : En) : Option En := match env[i]? with
  | some (.ow d) => (g d).bind fun d' => some (env.set i (.ow d'))
  | some (.pw d) => (g d).bind fun d' => some (env.set i (.pw d'))
  | _ => none
theorem chgAt_inv {i : Nat} {g : D → Option D} {env e : En} (h : chgAt i g env = some e) : ∃ d d' x, IsOw env i d ∧ g d = some d' ∧ ((env[i]? = some (.ow d) ∧ x = .ow d') ∨ (env[i]? = some (.pw d) ∧ x = .pw d')) ∧ e = env.set i x := by
  unfold chgAt at h
  split at h
  · rename_i d q
    obtain ⟨d', q2, h⟩ := bd h
    cases h
    exact ⟨d, d', _, .inl q, q2, .inl ⟨q, rfl⟩, rfl⟩
  · rename_i d q
    obtain ⟨d', q2, h⟩ := bd h
    cases h
    exact ⟨d, d', _, .inr q, q2, .inr ⟨q, rfl⟩, rfl⟩
  · cases h
/-- xs.m(..): the arguments, then the name's object is changed -/
def ownL : Option Sv → Option (List D)
  | some (.ow (.list ds)) => some ds
  | some (.pw (.list ds)) => some ds
  | _ => none
theorem ownL_inv {i : Nat} {env : En} {ds : List D} (h : ownL env[i]? = some ds) : IsOw env i (.list ds) := by
  unfold ownL at h
  split at h
  · rename_i q; cases h; exact .inl q
  · rename_i q; cases h; exact .inr q
  · cases h
def eMeth (i : Nat) (g : List D → D → Option D) (os : List Opd) : Df := fun env => (ownL env[i]?).bind fun _ => (evs os env).bind fun r => (fzAll r.1).bind fun ds => (chgAt i (g ds) r.2).bind fun e => some (.none, e)
def gAppend : List D → D → Option D
  | [x], .list ds => if ds.length < 100000 then some (.list (ds ++ [x])) else none
  | _, _ => none
def gInsert : List D → D → Option D
  | [.int i, x], .list ds => if ds.length < 100000 ∧ 0 ≤ i ∧ i < 2 ^ 63 then some (.list (ds.take i.toNat ++ [x] ++ ds.drop i.toNat)) else none
  | _, _ => none
/-- what a method of a list does to it -/
def OkM (K : Fg) (r : V → List V → Hp → VK → Prop) (g : List D → D → Option D) : Prop := ∀ {F H : Hp} {p : Addr} {vs ws : List V} {ds xs : List D} {d' : D} {Q : VK}, H p = some (.lst vs) → DtA K F vs ds → DtA K F ws xs → g xs (.list ds) = some d' →
  (∀ o, Own K F (upd H p o) p d' → Q .non (upd H p o)) → r (.ref p) ws H Q
theorem DtA.one {K : Fg} {F : Hp} {vs : List V} {d : D} (h : DtA K F vs [d]) : ∃ v, vs = [v] ∧ Dt K F v d := by
  cases h with
  | cons h t => cases t; exact ⟨_, rfl, h⟩
theorem DtA.two {K : Fg} {F : Hp} {vs : List V} {d e : D} (h : DtA K F vs [d, e]) : ∃ v w, vs = [v, w] ∧ Dt K F v d ∧ Dt K F w e := by
  cases h with
  | cons h t => obtain ⟨w, rfl, q⟩ := t.one; exact ⟨_, _, rfl, h, q⟩
theorem okm_append {K : Fg} : OkM K rAppend gAppend := fun {F H p vs ws ds xs d' Q} hp t tx e k => by
  unfold gAppend at e
  split at e
  · split at e
    · rename_i hl
      cases e
      obtain ⟨v, rfl, hv⟩ := tx.one
      rename_i ds' _ _ z
      cases z
      exact ⟨p, vs, v, rfl, rfl, hp, szL' (by rw [t.length]; exact hl), k _ ⟨_, upd_same, t.append (.cons hv .nil)⟩⟩
    · cases e
  · cases e
def rInsert : V → List V → Hp → VK → Prop := fun x vs H Q => ∃ (l : Addr) (xs : List V) (i : Int) (y : V), x = .ref l ∧ vs = [.int i, y] ∧ H l = some (.lst xs) ∧ xs.length < sizeLine ∧ 0 ≤ i ∧ i < 2 ^ 63 ∧ Q .non (upd H l (.lst (xs.take i.toNat ++ [y] ++ xs.drop i.toNat)))
theorem okm_insert {K : Fg} : OkM K rInsert gInsert := fun {F H p vs ws ds xs d' Q} hp t tx e k => by
  unfold gInsert at e
  split at e
  · split at e
    · rename_i hl
      cases e
      obtain ⟨v, w, rfl, hv, hw⟩ := tx.two
      rename_i ds' _ _ z
      cases z
      exact ⟨p, vs, _, w, rfl, by rw [hv.int_inv], hp, szL' (by rw [t.length]; exact hl.1), hl.2.1, hl.2.2, k _ ⟨_, upd_same, ((t.take _).append (.cons hw .nil)).append (t.drop _)⟩⟩
    · cases e
  · cases e
section
variable {X : Cx} {Tb : TbT} {e a b : Expr} {es : List Expr} {pos apos cpos : Pos} {x name : Str} {id : String}
theorem de_lm {i : Nat} {r : V → List V → Hp → VK → Prop} {g : List D → D → Option D} {os : List Opd} (slot : Slot "list" name id) (hty : typeOf (.builtin id) = pure (.type "method_descriptor")) (hm : MtR X id r) (hk : OkM (X.kg Tb) r g) (hgl : ∀ ds d d', g ds d = some d' → ∃ l, d = .list l)
    (ha : PA X (e :: es) (tAr (X.kg Tb) os)) (hN : X.N[i]? = some x := by rfl) (hv : Vis X.env.scope x := by first | exact Or.inl rfl | exact Or.inr (Or.inl rfl) | exact Or.inr (Or.inr rfl)) (hd : (x == ("__debug__" : Str)) = false := by decide) (hcd : (x == ("__classdict__" : Str)) = false := by decide)
    (hbase : attributeBase (.Name x pos) name X.env (eval (.Name x pos) X.env) = eval (.Name x pos) X.env := by rfl)
    (hfew : ((backTo cpos (starEach (e :: es) X.env)).all (fun x => !x.1) && (backToKw cpos (keywordEach [] X.env)).all (fun x => x.1.isSome)
      && decide ((e :: es).length + ([] : List Keyword).length + (if ([] : List Keyword).isEmpty then 0 else 1) < 30)) = true := by rfl)
    (hline : (apos.endLine == cpos.line) = true := by rfl) (hs : starEach (e :: es) X.env = (false, eval e X.env) :: starEach es X.env := by rfl) (hplain : (backTo cpos (starEach es X.env)).any (·.1) = false := by rfl) :
    PE X (.Call (.Attribute (.Name x pos) name apos) (e :: es) [] cpos) (tD (X.kg Tb) (eMeth i g os)) :=
  PEi (pe_bm PySem.F.plainAttrs_list slot hty hm (pe_var hN hv hd hcd) ha hbase hfew hline hs hplain) fun σ H Q ⟨B, F, env, d, env', S, ef, k⟩ => by
    obtain ⟨ov, q0, ef⟩ := bd ef
    obtain ⟨⟨us, e1⟩, q1, ef⟩ := bd ef
    obtain ⟨ds, q2, ef⟩ := bd ef
    obtain ⟨e2, q3, ef⟩ := bd ef
    cases ef
    obtain ⟨d0, d1, y, ow, hg, hx, rfl⟩ := chgAt_inv q3
    obtain ⟨l0, rfl⟩ := hgl _ _ _ hg
    obtain ⟨p, h1, h2, ⟨vs, h3, h4⟩, _⟩ := S.own i _ (ownL_inv q0)
    refine ⟨_, h1, .inl ⟨rfl, vs, SqL.of h3⟩, B, F, env, us, e1, S, q1, fun ws F1 H1 S1 s1 ha1 => ?_⟩
    obtain ⟨p', g1, g2, ⟨vs', g3, g4⟩, _⟩ := S1.own i _ ow
    rw [h1] at g1; cases g1
    exact hk g3 g4 (fzAll_dt ha1 q2) hg fun o ho => k _ F1 _ (S1.chg ow h1 hx ho) s1 .non
theorem de_append {i : Nat} {os : List Opd} (ha : PA X [e] (tAr (X.kg Tb) os)) (hN : X.N[i]? = some x := by rfl) (hv : Vis X.env.scope x := by first | exact Or.inl rfl | exact Or.inr (Or.inl rfl) | exact Or.inr (Or.inr rfl)) (hd : (x == ("__debug__" : Str)) = false := by decide) (hcd : (x == ("__classdict__" : Str)) = false := by decide)
    (hbase : attributeBase (.Name x pos) "append" X.env (eval (.Name x pos) X.env) = eval (.Name x pos) X.env := by rfl)
    (hfew : ((backTo cpos (starEach [e] X.env)).all (fun x => !x.1) && (backToKw cpos (keywordEach [] X.env)).all (fun x => x.1.isSome)
      && decide ([e].length + ([] : List Keyword).length + (if ([] : List Keyword).isEmpty then 0 else 1) < 30)) = true := by rfl)
    (hline : (apos.endLine == cpos.line) = true := by rfl) (hs : starEach [e] X.env = (false, eval e X.env) :: starEach [] X.env := by rfl) (hplain : (backTo cpos (starEach [] X.env)).any (·.1) = false := by rfl) :
    PE X (.Call (.Attribute (.Name x pos) "append" apos) [e] [] cpos) (tD (X.kg Tb) (eMeth i gAppend os)) :=
  de_lm PySem.F.slot_list_append PySem.F.type_list_append mt_append okm_append (fun ds d d' h => by
    unfold gAppend at h
    split at h
    · exact ⟨_, rfl⟩
    · cases h) ha hN hv hd hcd hbase hfew hline hs hplain
theorem de_insert {i : Nat} {os : List Opd} (ha : PA X [a, b] (tAr (X.kg Tb) os)) (hN : X.N[i]? = some x := by rfl) (hv : Vis X.env.scope x := by first | exact Or.inl rfl | exact Or.inr (Or.inl rfl) | exact Or.inr (Or.inr rfl)) (hd : (x == ("__debug__" : Str)) = false := by decide) (hcd : (x == ("__classdict__" : Str)) = false := by decide)
    (hbase : attributeBase (.Name x pos) "insert" X.env (eval (.Name x pos) X.env) = eval (.Name x pos) X.env := by rfl)
    (hfew : ((backTo cpos (starEach [a, b] X.env)).all (fun x => !x.1) && (backToKw cpos (keywordEach [] X.env)).all (fun x => x.1.isSome)
      && decide ([a, b].length + ([] : List Keyword).length + (if ([] : List Keyword).isEmpty then 0 else 1) < 30)) = true := by rfl)
    (hline : (apos.endLine == cpos.line) = true := by rfl) (hs : starEach [a, b] X.env = (false, eval a X.env) :: starEach [b] X.env := by rfl) (hplain : (backTo cpos (starEach [b] X.env)).any (·.1) = false := by rfl) :
    PE X (.Call (.Attribute (.Name x pos) "insert" apos) [a, b] [] cpos) (tD (X.kg Tb) (eMeth i gInsert os)) :=
  de_lm PySem.F.slot_list_insert PySem.F.type_list_insert mt_insert okm_insert (fun ds d d' h => by
    unfold gInsert at h
    split at h
    · exact ⟨_, rfl⟩
    · cases h) ha hN hv hd hcd hbase hfew hline hs hplain
/-- xs[i] = e, xs one's own -/
def sSetIx (i : Nat) (f : Df) (ob : Opd) : Sf := fun env => (f env).bind fun r => (ownL r.2[i]?).bind fun _ => (ob.ev r.2).bind fun t => (t.1.look t.2).bind fun y => (chgAt i (gSetL y r.1) t.2).bind fun e => some (.nx e)
where gSetL : D → D → D → Option D
  | .int k, x, .list ds => (ixN ds.length k).bind fun j => some (.list (ds.set j x))
  | _, _, _ => none
theorem dS_setIx {wh : Wh} {i : Nat} {ob : Opd} {f : Df} {p1 p2 : Pos} (he : PE X e (tD (X.kg Tb) f)) (hb : PE X b (tO (X.kg Tb) ob)) (hN : X.N[i]? = some x := by rfl) (hv : Vis X.env.scope x := by first | exact Or.inl rfl | exact Or.inr (Or.inl rfl) | exact Or.inr (Or.inr rfl)) (hd : (x == ("__debug__" : Str)) = false := by decide) (hcd : (x == ("__classdict__" : Str)) = false := by decide)
    (ha : ∀ v, assign (.Subscript (.Name x p1) b p2) X.env v = (do
      let ov ← holding [v] (eval (.Name x p1) X.env)
      let iv ← holding [v, ov] (eval b X.env)
      standAt p2
      holding [v, ov, iv] (setItem ov iv v)
      release [v, ov, iv] []) := by intro _; rfl)
    (hs : swapsWithSole [.Subscript (.Name x p1) b p2] e pos.line X.env = pure false := by rfl) (hw : swappedStores [.Subscript (.Name x p1) b p2] e X.env = pure none := by rfl)
    (h1 : (assignEach [.Subscript (.Name x p1) b p2] X.env).map (·.2) = [assign (.Subscript (.Name x p1) b p2) X.env] := by rfl) : PS X (.Assign [.Subscript (.Name x p1) b p2] e pos) (tS (X.kg Tb) wh (sSetIx i f ob)) :=
  PSi (ps_asg he (pg_sub (pe_var hN hv hd hcd) hb set_list ha) hs hw h1) fun E σ H ⟨B, F, env, r, S, ef, k⟩ => by
    obtain ⟨⟨d, e1⟩, q1, ef⟩ := bd ef
    obtain ⟨l0, q2, ef⟩ := bd ef
    obtain ⟨⟨u, e2⟩, q3, ef⟩ := bd ef
    obtain ⟨y, q4, ef⟩ := bd ef
    obtain ⟨e3, q5, ef⟩ := bd ef
    cases ef
    obtain ⟨d0, d1, z, ow, hg, hx, rfl⟩ := chgAt_inv q5
    refine ⟨B, F, env, d, e1, S, q1, fun v F1 H1 S1 s1 hv1 => ?_⟩
    obtain ⟨p, h1, h2, ⟨vs, h3, h4⟩, _⟩ := S1.own i _ (ownL_inv q2)
    refine ⟨_, h1, B, F1, e1, u, e2, S1, q3, fun w F2 H2 S2 s2 hw2 => ?_⟩
    have hy := hw2.bv S2 q4
    unfold sSetIx.gSetL at hg
    split at hg
    · obtain ⟨j, q6, hg⟩ := bd hg
      cases hg
      obtain ⟨p', g1, g2, ⟨vs', g3, g4⟩, _⟩ := S2.own i _ ow
      rw [h1] at g1; cases g1
      exact ⟨p, vs', _, j, rfl, hy.int_inv, g3, by rw [g4.length]; exact q6, k _ F2 _ (S2.chg ow h1 hx ⟨_, upd_same, g4.set (hv1.mono s2) j⟩) (s1.trans s2)⟩
    · cases hg
end
end DL
namespace DL
open PySem L2
/-- a def of the text, as callers want it -/
structure Got (P : Program) (w : World) (K : Fr) (mg : Str → Option Value) (base : Heap) (k : Nat) (x : Str) (ps : List Str) (sp : Sp) : Prop where
  ex : ∃ (f : Addr) (fd : FuncData), FnOk P w K mg base CX0 k f fd ps sp ∧ mg x = some (.ref f) ∧ PySem.W.keepIn K (.ref f) = true ∧ Binds K fd ps []
section
variable {X : Cx} {Tb : TbT} {x : Str} {p pos : Pos} {e : Expr} {es : List Expr} {ps : List Str} {k j : Nat} {fl : List Bool} {g : List D → Option (D × List D)} {os : List Opd}
theorem de_callG (G : Got X.prog X.w X.K X.mg X.base k x ps (spD (X.kg Tb) fl .fz g)) (hr : Room j X.A) (hg : Gl X x) (ha : PA X (e :: es) (tAr (X.kg Tb) os)) (hj : k ≤ j := by decide) (hdb : (x == ("__debug__" : Str)) = false := by decide) (he : starEach (e :: es) X.env = (false, eval e X.env) :: starEach es X.env := by rfl) (hpl : (backTo pos (starEach es X.env)).any (·.1) = false := by rfl) :
    PE X (.Call (.Name x p) (e :: es) [] pos) (tD (X.kg Tb) (eCall fl g os)) := by
  obtain ⟨f, fd, F, m, kp, b⟩ := G.ex
  exact de_call F (hr.mono hj) hg m kp b ha hdb he hpl
theorem de_callGN (G : Got X.prog X.w X.K X.mg X.base k x ps (spD (X.kg Tb) fl .nw g)) (hr : Room j X.A) (hg : Gl X x) (ha : PA X (e :: es) (tAr (X.kg Tb) os)) (hj : k ≤ j := by decide) (hdb : (x == ("__debug__" : Str)) = false := by decide) (he : starEach (e :: es) X.env = (false, eval e X.env) :: starEach es X.env := by rfl) (hpl : (backTo pos (starEach es X.env)).any (·.1) = false := by rfl) :
    PE X (.Call (.Name x p) (e :: es) [] pos) (tN (X.kg Tb) (eCall fl g os)) := by
  obtain ⟨f, fd, F, m, kp, b⟩ := G.ex
  exact de_callN F (hr.mono hj) hg m kp b ha hdb he hpl
end
theorem ok_lt {K : Fg} : Ok2 K (rI0 fun i j => .bl (decide (i < j))) gLt := ok_cmp
theorem ok_le {K : Fg} : Ok2 K (rI0 fun i j => .bl (decide (i ≤ j))) gLe := ok_cmp
theorem ok_gt {K : Fg} : Ok2 K (rI0 fun i j => .bl (decide (j < i))) gGt := ok_cmp
theorem ok_ge {K : Fg} : Ok2 K (rI0 fun i j => .bl (decide (j ≤ i))) gGe := ok_cmp
/-- {} -/
def eDict0 : Df := fun env => some (.dict [], env)
def pairs : List D → List D → List D
  | a :: as, b :: bs => .tuple [a, b] :: pairs as bs
  | _, _ => []
theorem pairs_get : ∀ {as bs : List D} {i : Nat} {d : D}, (pairs as bs)[i]? = some d → ∃ a b, as[i]? = some a ∧ bs[i]? = some b ∧ d = .tuple [a, b]
  | [], _, _, _, h => by simp [pairs] at h
  | _ :: _, [], _, _, h => by simp [pairs] at h
  | a :: as, b :: bs, 0, d, h => by simp [pairs] at h; exact ⟨a, b, rfl, rfl, h.symm⟩
  | a :: as, b :: bs, i + 1, d, h => pairs_get (as := as) (bs := bs) (i := i) h
theorem pairs_len : ∀ {as bs : List D} {i : Nat}, (pairs as bs).length ≤ i → as.length ≤ i ∨ bs.length ≤ i
  | [], _, _, _ => .inl (Nat.zero_le _)
  | _ :: _, [], _, _ => .inr (Nat.zero_le _)
  | a :: as, b :: bs, 0, h => by simp [pairs] at h
  | a :: as, b :: bs, i + 1, h => by
    rcases pairs_len (as := as) (bs := bs) (i := i) (Nat.le_of_succ_le_succ h) with h | h
    · exact .inl (Nat.succ_le_succ h)
    · exact .inr (Nat.succ_le_succ h)
theorem walks_zipT {K : Fg} {F : Hp} {a b : Addr} {vs ws : List V} {ds es : List D} (ha : F a = some (.tup vs)) (hb : F b = some (.tup ws)) (ta : DtA K F vs ds) (tb : DtA K F ws es) : Walks K (RZ.ItzT K.fr a b) F (pairs ds es) := fun {B F' H σ env} S s i => by
  have q1 : SqT K.fr H a vs := SqT.of (S.fh.tup (s _ _ ha rfl))
  have q2 : SqT K.fr H b ws := SqT.of (S.fh.tup (s _ _ hb rfl))
  refine ⟨fun d e => ?_, fun hl => ⟨vs, ws, q1, q2, by rw [ta.length, tb.length]; exact pairs_len (Nat.le_of_eq hl)⟩⟩
  obtain ⟨x, y, e1, e2, rfl⟩ := pairs_get e
  obtain ⟨v, h1, h2⟩ := ta.get e1
  obtain ⟨w, h3, h4⟩ := tb.get e2
  refine ⟨⟨vs, ws, v, w, q1, q2, h1, h3⟩, fun z H' y => ?_⟩
  obtain ⟨T, x', y', rfl, nT, rfl, f1, f2⟩ := y
  have g1 := f1 vs q1
  rw [h1] at g1; cases g1
  have g2 := f2 ws q2
  rw [h3] at g2; cases g2
  exact ⟨_, S.new nT, S.subNew nT, .tup upd_same (.cons (h2.mono (s.trans (S.subNew nT))) (.cons (h4.mono (s.trans (S.subNew nT))) .nil))⟩
def iZipT (f g : Df) : If := fun env => (f env).bind fun r => (g r.2).bind fun t => match r.1, t.1 with
  | .tuple ds, .tuple es => some (pairs ds es, t.2)
  | _, _ => none
section
variable {X : Cx} {Tb : TbT} {e e2 : Expr} {p pos tpos : Pos} {elts : List Expr} {kk : Nat}
theorem zip_args {f g : Df} (h1 : PE X e (tD (X.kg Tb) f)) (h2 : PE X e2 (tD (X.kg Tb) g)) (hs : starEach [e, e2] X.env = (false, eval e X.env) :: starEach [e2] X.env := by rfl) (hs2 : starEach [e2] X.env = [(false, eval e2 X.env)] := by rfl) : PA X [e, e2] (tCons (tD (X.kg Tb) f) (tCons (tD (X.kg Tb) g) tNil)) := pa_cons h1 (pa_cons h2 pa_nil hs2) hs
theorem di_zipT {f g : Df} (hg : Gl X "zip") (hm : X.mg "zip" = none) (h1 : PE X e (tD (X.kg Tb) f)) (h2 : PE X e2 (tD (X.kg Tb) g)) (hs : starEach [e, e2] X.env = (false, eval e X.env) :: starEach [e2] X.env := by rfl) (hs2 : starEach [e2] X.env = [(false, eval e2 X.env)] := by rfl) (hpl : (backTo pos (starEach [e2] X.env)).any (·.1) = false := by rfl) :
    PI X (.Tuple elts kk tpos) (.Call (.Name "zip" p) [e, e2] [] pos) (iD (X.kg Tb) (iZipT f g)) := PIi (RZ.pi_zipA hg hm (zip_args h1 h2 hs hs2) hs hpl) fun σ H R ⟨B, F, env, ds, env', S, ef, k⟩ => by
  obtain ⟨⟨d1, e1⟩, q1, ef⟩ := bd ef
  obtain ⟨⟨d2, e3⟩, q2, ef⟩ := bd ef
  dsimp only at ef
  split at ef
  · cases ef
    refine ⟨B, F, env, _, e1, S, q1, fun v F1 H1 S1 s1 hd1 => ⟨B, F1, e1, _, _, S1, q2, fun w F2 H2 S2 s2 hd2 => ?_⟩⟩
    have hd1 := hd1.mono s2
    cases hd1 with
    | tup a1 t1 =>
      cases hd2 with
      | tup a2 t2 => exact ⟨_, _, _, _, rfl, .inr ⟨SqT.of (S2.fh.tup a1), SqT.of (S2.fh.tup a2), k _ F2 H2 S2 (s1.trans s2) (walks_zipT a1 a2 t1 t2)⟩⟩
  · cases ef
end
end DL
namespace DL
open PySem L2
abbrev tupO (items : Array Value) (n : Nat) (dd : Option Addr) (sl : Array (Option Value)) : Obj := { cls := .type "tuple", dict := dd, data := .seq items n, slots := sl }
theorem tmul_same (l : Addr) (items : Array Value) (n : Nat) (dd : Option Addr) (sl : Array (Option Value)) (x : Int) (u : Tok) (c0 : (decide (x < -(2 ^ 63)) || decide (x ≥ 2 ^ 63)) = false) (c1 : (items.isEmpty || x == 1) = true) :
    Meets (Builtin.«tuple.__mul__» ⟨[.ref l, .int x u], []⟩) (fun _ R s => s.heap.get? l = some (tupO items n dd sl) ∧ R (.ok (.ret (Value.ref l))) s) :=
  .of_wp fun prog w A R s h => by
    obtain ⟨hp, g, d, tk, os⟩ := s
    obtain ⟨hl, h⟩ := h
    have f1 := AutoSeq1.idx_int
    wp_walk using AutoSeq1.wpAny_loadPart' hl
    refine wpAny_ite_false (decide_eq_false (by rw [c0]; exact Bool.false_ne_true)) ?_
    wp_walk using AutoSeq1.wpAny_loadPart' hl
    exact ⟨_, rfl, h⟩
theorem tmul_none (l : Addr) (items : Array Value) (n : Nat) (dd : Option Addr) (sl : Array (Option Value)) (x : Int) (u : Tok) (c0 : (decide (x < -(2 ^ 63)) || decide (x ≥ 2 ^ 63)) = false) (c1 : (items.isEmpty || x == 1) = false) (c2 : (decide (x ≤ 0) || items.isEmpty) = true) :
    Meets (Builtin.«tuple.__mul__» ⟨[.ref l, .int x u], []⟩) (fun _ R s => s.heap.get? l = some (tupO items n dd sl) ∧ R (.ok (.ret (Value.ref s.heap.objs.size))) { s with heap := s.heap.push { cls := Value.type "tuple", data := Data.seq #[] } }) :=
  .of_wp fun prog w A R s h => by
    obtain ⟨hp, g, d, tk, os⟩ := s
    obtain ⟨hl, h⟩ := h
    have f1 := AutoSeq1.idx_int
    wp_walk using AutoSeq1.wpAny_loadPart' hl
    refine wpAny_ite_false (decide_eq_false (by rw [c0]; exact Bool.false_ne_true)) ?_
    wp_walk using AutoSeq1.wpAny_loadPart' hl
    exact ⟨_, rfl, h⟩
/-- t * k: t itself, or nothing -/
def rRepS (K : Fr) : R2 := fun x y H Q => ∃ l k xs, x = .ref l ∧ y = .int k ∧ SqT K H l xs ∧ -(2 ^ 63) ≤ k ∧ k < 2 ^ 63 ∧ ((xs = [] ∨ k = 1) ∧ Q (.ref l) H ∨ (xs ≠ [] ∧ k ≤ 0) ∧ ∀ p, H p = none → Q (.ref p) (upd H p (.tup [])))
theorem op_repS {X : Cx} : OpR X (binaryOp .Mult) (rRepS X.K) := by
  intro pins s σ H x y v u Q I rx ry h
  obtain ⟨l, k, xs, rfl, rfl, hT, h1, h2, h⟩ := h
  cases rx
  obtain ⟨t, rfl⟩ := ry
  obtain ⟨its, r, ⟨⟨cls, dd, data, sl⟩, ho, hc, n, hd⟩, hs⟩ := I.tuple hT
  simp only at hc hd
  subst hc hd
  have hle : its.length = xs.length := r.length.symm
  have c0 : (decide (k < -(2 ^ 63)) || decide (k ≥ 2 ^ 63)) = false := by
    rw [decide_eq_false (by omega), decide_eq_false (by omega)] <;> rfl
  have emp : its.toArray.isEmpty = xs.isEmpty := by
    cases r <;> rfl
  rcases h with ⟨hc, q⟩ | ⟨⟨hn, hk⟩, q⟩
  · have c1 : (its.toArray.isEmpty || k == 1) = true := by
      rw [emp]
      rcases hc with rfl | rfl
      · rfl
      · simp
    refine wpAny_binaryOp_repeat_ref (T := "tuple") (U := "int") (by decide) ⟨_, ho, rfl⟩ (fun s' => typeIs_int s' k t) noFill_tuple_mul F.fills_int_mul F.slot_int_rmul repeat_tuple F.slot_int_index.lookup
      (call_meets F.slot_int_rmul (typeIs_int s k t) F.entry_int_rmul (F.args_int_rmul_2 _ _) (int_rmul_tuple k t l its.toArray n dd sl)
        ⟨ho, rfl, ⟨_, ho, rfl⟩, call_meets F.slot_tuple_mul ⟨_, ho, rfl⟩ F.entry_tuple_mul (F.args_tuple_mul_2 _ _) (tmul_same l its.toArray n dd sl k t c0 c1) ⟨ho, ?_⟩⟩)
    exact ⟨.ref l, H, I, rfl, q⟩
  · have c1 : (its.toArray.isEmpty || k == 1) = false := by
      rw [emp]
      cases xs with
      | nil => exact absurd rfl hn
      | cons _ _ => exact beq_eq_false_iff_ne.mpr (by omega)
    have c2 : (decide (k ≤ 0) || its.toArray.isEmpty) = true := by
      rw [decide_eq_true hk]
      rfl
    refine wpAny_binaryOp_repeat_ref (T := "tuple") (U := "int") (by decide) ⟨_, ho, rfl⟩ (fun s' => typeIs_int s' k t) noFill_tuple_mul F.fills_int_mul F.slot_int_rmul repeat_tuple F.slot_int_index.lookup
      (call_meets F.slot_int_rmul (typeIs_int s k t) F.entry_int_rmul (F.args_int_rmul_2 _ _) (int_rmul_tuple k t l its.toArray n dd sl)
        ⟨ho, rfl, ⟨_, ho, rfl⟩, call_meets F.slot_tuple_mul ⟨_, ho, rfl⟩ F.entry_tuple_mul (F.args_tuple_mul_2 _ _) (tmul_none l its.toArray n dd sl k t c0 c1 c2) ⟨ho, ?_⟩⟩)
    refine ⟨.ref s.heap.objs.size, _, I.laid (t' := s.toks) (o := .tup []) (fun b ob z => Heap.get?_push_of_some _ z) (Nat.le_refl _) ?_, rfl, q _ (I.hok.fresh (Nat.le_refl _))⟩
    exact ⟨Nat.zero_le _, [], .nil, PyProof.Rows.IsTup.new _ _⟩
def gMuls : D → D → Option D
  | .int a, .int b => gMul (.int a) (.int b)
  | .tuple ds, .int k => if -(2 ^ 63) ≤ k ∧ k < 2 ^ 63 then (if ds.isEmpty = true ∨ k = 1 then some (.tuple ds) else if k ≤ 0 then some (.tuple []) else none) else none
  | .list ds, .int k => if 0 ≤ k ∧ k ≤ 1000 ∧ ds.length ≤ 1000 then some (.list (List.replicate k.toNat ds).flatten) else none
  | _, _ => none
def rMulI : R2 := rI CMul fun i j => .int (i * j)
def rMuls (K : Fr) : R2 := fun x y H Q => rMulI x y H Q ∨ rRepS K x y H Q ∨ rRep x y H Q
theorem op_muls {X : Cx} : OpR X (binaryOp .Mult) (rMuls X.K) := OpR.or op_mul (OpR.or op_repS op_rep)
theorem DtA.rep {K : Fg} {F : Hp} {vs : List V} {ds : List D} (t : DtA K F vs ds) : ∀ n : Nat, DtA K F (List.replicate n vs).flatten (List.replicate n ds).flatten
  | 0 => .nil
  | n + 1 => by
    rw [List.replicate_succ, List.replicate_succ, List.flatten_cons, List.flatten_cons]
    exact t.append (t.rep n)
theorem ok_muls {K : Fg} : Ok2 K (rMuls K.fr) gMuls := fun {B F H σ env x y a b d Q} S ha hb e k => by
  unfold gMuls at e
  split at e
  · exact .inl (ok_mul S ha hb e k)
  · rename_i ds n
    by_cases hc : -(2 ^ 63) ≤ n ∧ n < 2 ^ 63
    · rw [if_pos hc] at e
      obtain ⟨p, vs, rfl, f, hp, t⟩ := ha.tup S.fh
      refine .inr (.inl ⟨p, n, vs, rfl, hb.int_inv, SqT.of hp, hc.1, hc.2, ?_⟩)
      have he : ds.isEmpty = vs.isEmpty := by cases t <;> rfl
      by_cases h1 : ds.isEmpty = true ∨ n = 1
      · rw [if_pos h1] at e
        cases e
        refine .inl ⟨?_, k _ F H S (Sub.refl _) (.tup f t)⟩
        rcases h1 with h1 | h1
        · rw [he] at h1; exact .inl (List.isEmpty_iff.mp h1)
        · exact .inr h1
      · rw [if_neg h1] at e
        by_cases h2 : n ≤ 0
        · rw [if_pos h2] at e
          cases e
          refine .inr ⟨⟨fun z => h1 (.inl (by rw [he, z]; rfl)), h2⟩, fun r hr => k _ _ _ (S.new hr) (S.subNew hr) (.tup upd_same .nil)⟩
        · rw [if_neg h2] at e; cases e
    · rw [if_neg hc] at e; cases e
  · rename_i ds n
    by_cases hc : 0 ≤ n ∧ n ≤ 1000 ∧ ds.length ≤ 1000
    · rw [if_pos hc] at e
      cases e
      obtain ⟨p, vs, rfl, hp, t⟩ := ha.lst S.fh
      refine .inr (.inr ⟨p, n, vs, rfl, hb.int_inv, hp, by omega, by omega, ?_, fun r hr => k _ _ _ (S.new hr) (S.subNew hr) (.lst upd_same ((t.rep _).mono (S.subNew hr)))⟩)
      have h1 : vs.length * n.toNat ≤ 1000 * 1000 := Nat.mul_le_mul (by rw [t.length]; exact hc.2.2) (by omega)
      exact Nat.le_trans h1 (by decide)
    · rw [if_neg hc] at e; cases e
  · cases e
mutual
/-- no script in it, no dict with keys that are tuples -/
def noScr : D → Bool
  | .list ds => noScrs ds
  | .tuple ds => noScrs ds
  | .dict es => noScrK es
  | _ => true
def noScrs : List D → Bool
  | [] => true
  | d :: ds => noScr d && noScrs ds
def noScrK : List (D × D) → Bool
  | [] => true
  | (.int _, d) :: ds => noScr d && noScrK ds
  | (.str _, d) :: ds => noScr d && noScrK ds
  | _ :: _ => false
end
mutual
def noLst : D → Bool
  | .list _ => false
  | .tuple ds => noLsts ds
  | .dict es => noLstK es
  | _ => true
def noLsts : List D → Bool
  | [] => true
  | d :: ds => noLst d && noLsts ds
def noLstK : List (D × D) → Bool
  | [] => true
  | e :: ds => noLst e.2 && noLstK ds
end
section
variable {X : Cx} {Tb : TbT} {pins : List (Addr × Obj)} {σ : L2.St} {F H : Hp} {s : Shared}
theorem key_reads {h : Heap} {k : Key} {u : Value} (e : keyIs k u = true) : Reads h u (kD k) [] := by
  rcases keyIs_shape e with ⟨i, t, rfl, rfl⟩ | ⟨x, t, rfl, rfl⟩
  · exact .int i t
  · exact .str x t
/-- what is told of the addresses -/
def NoSys (b : Bool) (as : List Addr) : Prop := b = true → sysModules ∉ as
mutual
theorem Dt.reads (I : Inv X pins σ H s) (l : Lk F H) : ∀ {v : V} {d : D} {u : Value}, Dt (X.kg Tb) F v d → RelV v u → noScr d = true → ∃ as, Reads s.heap u d as ∧ NoSys (noLst d) as
  | _, _, _, .non, r, _ => by cases r; exact ⟨[], .none, fun _ z => nomatch z⟩
  | _, _, _, .bl b, r, _ => by cases r; exact ⟨[], .bool b, fun _ z => nomatch z⟩
  | _, _, _, .int i, r, _ => by obtain ⟨t, rfl⟩ := r; exact ⟨[], .int i t, fun _ z => nomatch z⟩
  | _, _, _, .str i, r, _ => by obtain ⟨t, rfl⟩ := r; exact ⟨[], .str i t, fun _ z => nomatch z⟩
  | _, _, _, .lst h t, r, n => by
    cases r
    obtain ⟨_, its, m, rv, e⟩ := I.hok _ _ (l.lst h)
    obtain ⟨as, hr, _⟩ := t.reads I l rv (by simpa [noScr] using n)
    exact ⟨_, .list e rfl rfl (by simpa using hr), fun z => by simp [noLst] at z⟩
  | _, _, _, .tup h t, r, n => by
    cases r
    obtain ⟨_, its, rv, o, e, ec, m, ed⟩ := I.hok _ _ (l.tup h)
    obtain ⟨as, hr, hn⟩ := t.reads I l rv (by simpa [noScr] using n)
    exact ⟨_, .tuple e ec ed (by simpa using hr), fun z => hn (by simpa [noLst] using z)⟩
  | _, _, _, .scr h, r, n => by simp [noScr, noScrK] at n
  | _, _, _, .dk h t, r, n => by
    cases r
    obtain ⟨_, hs, vs, kv, o, es, ep, e, ec, ed, _, hp, _⟩ := dk_rd I.hok (l.rd rfl (.inl h))
    obtain ⟨as, bs, h1, h2, h3⟩ := t.reads I l kv hp (by simpa [noScr] using n)
    refine ⟨_, .dict e ec.1 ed h1 h2, fun z hm => ?_⟩
    rcases List.mem_cons.mp hm with q | q
    · rw [← q] at hs; simp at hs
    · exact h3 (by simpa [noLst] using z) q
  | _, _, _, .dt h t, r, n => by simp [noScr, noScrK] at n
theorem DtA.reads (I : Inv X pins σ H s) (l : Lk F H) : ∀ {vs : List V} {ds : List D} {us : List Value}, DtA (X.kg Tb) F vs ds → Vals vs us → noScrs ds = true → ∃ as, ReadsAll s.heap us ds as ∧ NoSys (noLsts ds) as
  | _, _, _, .nil, .nil, _ => ⟨[], .nil, fun _ z => nomatch z⟩
  | _, _, _, .cons h t, .cons r rr, n => by
    simp only [noScrs, Bool.and_eq_true] at n
    obtain ⟨as, h1, h2⟩ := h.reads I l r n.1
    obtain ⟨bs, h3, h4⟩ := t.reads I l rr n.2
    refine ⟨_, .cons h1 h3, fun z hm => ?_⟩
    simp only [noLsts, Bool.and_eq_true] at z
    rcases List.mem_append.mp hm with q | q
    · exact h2 z.1 q
    · exact h4 z.2 q
theorem DtK.reads (I : Inv X pins σ H s) (l : Lk F H) : ∀ {kvs : List (Key × V)} {es : List (D × D)} {vs : List (Key × Value)} {en : List DictEntry}, DtK (X.kg Tb) F kvs es → KV kvs vs → Pairs (mixKind X.prog X.w) en vs → noScrK es = true →
    ∃ as bs, ReadsAll s.heap (en.map (·.key)) (es.map (·.1)) as ∧ ReadsAll s.heap (en.map (·.val)) (es.map (·.2)) bs ∧ NoSys (noLstK es) (as ++ bs)
  | _, _, _, _, .nil, .nil, .nil, _ => ⟨[], [], .nil, .nil, fun _ z => nomatch z⟩
  | (k, v) :: kvs, _, _, _, .cons (d := d) (ds := ds) h t, .cons r rr, .cons p1 p2 pp, n => by
    have n' : noScr d = true ∧ noScrK ds = true := by
      cases k <;> simpa [kD, noScrK] using n
    obtain ⟨e1, e2⟩ := r
    obtain ⟨as, h1, h2⟩ := h.reads I l e2 n'.1
    obtain ⟨cs, bs, h3, h4, h5⟩ := t.reads I l rr pp n'.2
    refine ⟨[] ++ cs, as ++ bs, .cons ?_ h3, .cons ?_ h4, fun z hm => ?_⟩
    · have e1 : k = _ := e1
      rw [e1]
      exact key_reads p1
    · dsimp only
      rw [p2]
      exact h1
    · simp only [noLstK, Bool.and_eq_true] at z
      rw [List.nil_append] at hm
      rcases List.mem_append.mp hm with q | q
      · exact h5 z.2 (List.mem_append_left _ q)
      · rcases List.mem_append.mp q with q | q
        · exact h2 z.1 q
        · exact h5 z.2 (List.mem_append_right _ q)
end
end
end DL
namespace DL
open PySem L2
def reprOk (d : D) : Bool := noScr d && (d.showable && ((!d.hasDict || noLst d) && (decide (d.depth ≤ 60) && decide (d.shown.length ≤ 16000000))))
def gRepr : D → Option D := fun d => if reprOk d = true then some (.str d.shown) else none
def rRepr (K : Fg) : List V → Hp → VK → Prop := fun xs H Q => ∃ v d F, xs = [v] ∧ Lk F H ∧ Dt K F v d ∧ reprOk d = true ∧ Q (.str d.shown) H
section
variable {X : Cx} {Tb : TbT} {e : Expr} {p pos : Pos} {k : Nat}
theorem call_reprD (hg : X.A.guards = some []) (hu : X.A.units + 64 < cLine) : CallR X (.builtin "repr") (rRepr (X.kg Tb)) := by
  intro pins s σ H xs us Q I r h
  obtain ⟨v, d, F, rfl, l, hd, ok, q⟩ := h
  obtain ⟨u, rfl, ru⟩ := vals1 r
  simp only [reprOk, Bool.and_eq_true, decide_eq_true_eq, Bool.or_eq_true] at ok
  obtain ⟨o1, o2, o3, o4, o5⟩ := ok
  have sz : d.shown.length ≤ sizeLine := Nat.le_trans o5 (by decide)
  have go : ∀ {a : Addr}, v = .ref a → wpAny (model X.prog X.w) X.A (call (.builtin "repr") [u]) (EP X pins σ Q) X.xe s := fun {a} ev => by
    subst ev
    obtain ⟨as, hr, hs⟩ := hd.reads I l ru o1
    cases ru
    refine repr_of_reads' hr o2 (fun hb => ?_) hg (by omega) (fun b o z => z) (fun h' t tk hk => ?_) sz
    · rcases o3 with o3 | o3
      · rw [hb] at o3; cases o3
      · exact hs o3
    · exact ⟨.str d.shown, H, I.kept hk, ⟨_, rfl⟩, q⟩
  cases hd with
  | non => cases ru; exact PySem.P.repr_of_none ⟨.str _, H, I.tok _, ⟨_, rfl⟩, by simpa [PyData.shown] using q⟩
  | bl b => cases ru; exact PySem.P.repr_of_bool ⟨.str _, H, I.tok _, ⟨_, rfl⟩, by simpa [PyData.shown] using q⟩
  | int i => obtain ⟨t, rfl⟩ := ru; exact PySem.P.repr_of_int (by simpa [PyData.showable] using o2) ⟨.str _, H, I.tok _, ⟨_, rfl⟩, by simpa [PyData.shown] using q⟩
  | str x => obtain ⟨t, rfl⟩ := ru; exact PySem.P.repr_of_str ⟨.str _, H, I.tok _, ⟨_, rfl⟩, by simpa [PyData.shown] using q⟩ (by simpa [PyData.shown] using sz)
  | lst _ _ => exact go rfl
  | tup _ _ => exact go rfl
  | scr _ => exact go rfl
  | dk _ _ => exact go rfl
  | dt _ _ => exact go rfl
  | exc _ _ => exact go rfl
  | exf _ _ _ _ => exact go rfl
  | fn _ => exact go rfl
  | ins _ _ _ => exact go rfl
theorem Lk.own {F H : Hp} {q : Addr} {o : HO} (l : Lk F H) (h : H q = some o) : Lk (upd F q o) H := fun a u e => by
  by_cases z : a = q
  · subst z; rw [upd_same] at e; cases e; exact .inl h
  · rw [upd_ne z] at e; exact l a u e
theorem ok_repr {K : Fg} : Ok1 K (fun x H Q => rRepr K [x] H Q) gRepr := fun {B F H σ env x a d Q} S ha e k => by
  unfold gRepr at e
  split at e
  · rename_i h
    cases e
    rcases ha with ha | ⟨q, rfl, n, ho⟩
    · exact ⟨x, a, F, rfl, S.fh, ha, h, k _ F H S (Sub.refl _) (.str _)⟩
    · obtain ⟨o, hq, _⟩ := ho.some
      exact ⟨_, a, _, rfl, S.fh.own hq, ho.froze hq n, h, k _ F H S (Sub.refl _) (.str _)⟩
  · cases e
theorem de_repr {o : Opd} (gd : X.A.guards = some []) (hr : Room k X.A) (hg : Gl X "repr") (hm : X.mg "repr" = none) (ha : PE X e (tO (X.kg Tb) o)) (he : starEach [e] X.env = [(false, eval e X.env)] := by rfl) (hpl : (backTo pos (starEach [] X.env)).any (·.1) = false := by rfl) :
    PE X (.Call (.Name "repr" p) [e] [] pos) (tD (X.kg Tb) (op1 gRepr o)) :=
  PEi (pe_callB (call_reprD gd hr.units) hg hm (by decide +kernel) (pa_cons ha pa_nil he) (by decide) (by decide) he hpl) fun σ H Q h => op1_le ok_repr σ H Q h
end
structure FnOkG (P : Program) (w : World) (K : Fr) (mg : Str → Option Value) (base : Heap) (k : Nat) (f : Addr) (fd : FuncData) (ps : List Str) (sp : Sp) : Prop where
  len : ∀ vs H Q E, sp vs H Q E → vs.length = ps.length
  run : ∀ (A : Around) (outer : List Env) (s : Shared) (H : Hp) (args : Args) (us : List Value) (vs : List V) (Q : VK) (E : XK), A.guards = some [] → Room k A → Env0 P w K mg base A outer s H → BindsTo s fd args (ps.zip us) → Vals vs us → sp vs H Q E →
    codeAny (model P w) A (.call (.ref f) args) (CR CX0 outer P w H s Q E) s
/-- a plain def of the text -/
abbrev FnP (K : Fr) (x : Str) (st : Stmt) (f : Addr) (fd : FuncData) : Prop := FunD K x x (defArgs st) (defBody st) (defScope st) [] [] f fd
theorem okP {P : Program} {w : World} {K : Fr} {mg : Str → Option Value} {base : Heap} {x : Str} {st : Stmt} {f : Addr} {fd : FuncData} {N ps : List Str} {k : Nat} {sp : Sp} (F : FnP K x st f fd) (S : FnScope N ps (defScope st)) (len : ∀ vs H Q E, sp vs H Q E → vs.length = ps.length)
    (body : ∀ (cdv : Value) (A : Around) (outer : List Env) (s : Shared) (H : Hp) (vs : List V) (Q : VK) (E : XK), Room k (A.deeper (PyProof.Rows.envOfC x (defScope st) s.heap.objs.size f cdv)) → sp vs H Q E →
      ∃ t, PSs (cxOf CX0 P w K mg base N x (defScope st) f cdv A outer s H E).nox (defBody st) t ∧ t { nx := fun _ H' => Q .non H', rt := Q } (L2.start N vs) H) : FnOk P w K mg base CX0 (k + 1) f fd ps sp :=
  F.ok S len fun cdv A outer s H vs Q E hr hsp => by
    obtain ⟨t, h, q⟩ := body cdv A outer s H vs Q E hr hsp
    exact ⟨t, h.nox, q⟩
theorem okG {P : Program} {w : World} {K : Fr} {mg : Str → Option Value} {base : Heap} {qual : Str} {st : Stmt} {f : Addr} {fd : FuncData} {N ps : List Str} {k : Nat} {sp : Sp} (F : FnP K qual st f fd) (S : FnScope N ps (defScope st)) (len : ∀ vs H Q E, sp vs H Q E → vs.length = ps.length)
    (body : ∀ (cdv : Value) (A : Around) (outer : List Env) (s : Shared) (H : Hp) (vs : List V) (Q : VK) (E : XK), (A.deeper (PyProof.Rows.envOfC qual (defScope st) s.heap.objs.size f cdv)).guards = some [] → Room k (A.deeper (PyProof.Rows.envOfC qual (defScope st) s.heap.objs.size f cdv)) → sp vs H Q E →
      ∃ t, PSs (cxOf CX0 P w K mg base N qual (defScope st) f cdv A outer s H E).nox (defBody st) t ∧ t { nx := fun _ H' => Q .non H', rt := Q } (L2.start N vs) H) : FnOkG P w K mg base (k + 1) f fd ps sp := by
  obtain ⟨oc, od, dV, kV, doc, pm, an, cdv, ct, osl, rfl, lk, hcd, _, _⟩ := F.ex
  refine ⟨len, fun A outer s H args us vs Q E gd hr e0 hb rv hsp => ?_⟩
  have inn : K.In s.heap := e0.mod.kin.keeps fun b o z => (e0.bs b o z).1
  have lim : s.heap.NoLimit := e0.mod.nolimit.keeps fun b o z => (e0.bs b o z).1
  refine codeAny_call_function hr.depth (inn _ _ lk) rfl S.co S.gen rfl (PySem.W.codeRec_of inn hcd) (hb _ _ _ _ ?_)
  refine wpAny_newFunctionEnv_cells S.kind (fun y hy => ?_) fun env he s1 x1 => ?_
  · obtain ⟨n, v⟩ := y
    rcases S.par n (List.of_mem_zip hy).1 with q | q
    · exact .inl q
    · exact .inr ⟨q, PySem.W.cellsFrom_some _ _ _ (.inl q)⟩
  subst he
  refine ⟨lim.keeps x1.toInCall.keep, codeAny_func ?_⟩
  obtain ⟨t, ht, hq⟩ := body cdv A outer s H vs Q E gd (hr.deeper _) hsp
  have I := inv_start (CX := CX0) (E := E) S hr.hd e0 (len _ _ _ _ hsp) rv x1
  refine wpAny_mono (ht.nox.run [] s1 (L2.start N vs) H _ I hq) (fun fl s' hs => ?_) fun _ _ z => z
  have fin : ∀ {σ' : L2.St} {H' : Hp} {v : V} {u : Value}, L2.Inv (cxOf CX0 P w K mg base N qual (defScope st) f cdv A outer s H E) [] σ' H' s' → RelV v u → Q v H' → CE outer P w H s Q u s' := fun {σ' H' v u} J r q => ⟨v, H', J.os, J.bare, J.base, J.hok, r, q⟩
  cases fl with
  | ret u => obtain ⟨v, σ', H', J, r, q⟩ := hs; exact fin J r q
  | next => obtain ⟨σ', H', J, q⟩ := hs; exact fin (v := V.non) (u := Value.none) J rfl q
  | brk => obtain ⟨_, _, _, q⟩ := hs; exact q.elim
  | cont => obtain ⟨_, _, _, q⟩ := hs; exact q.elim
end DL
namespace DL
open PySem L2
def numbered : Nat → List D → List D
  | _, [] => []
  | n, d :: ds => .tuple [.int (n : Nat), d] :: numbered (n + 1) ds
theorem numbered_get : ∀ {n : Nat} {ds : List D} {i : Nat} {d : D}, (numbered n ds)[i]? = some d → ∃ x, ds[i]? = some x ∧ d = .tuple [.int ((n + i : Nat) : Int), x]
  | n, [], i, d, h => by simp [numbered] at h
  | n, x :: ds, 0, d, h => by simp [numbered] at h; exact ⟨x, rfl, h.symm⟩
  | n, x :: ds, i + 1, d, h => by
    obtain ⟨y, h1, h2⟩ := numbered_get (n := n + 1) (ds := ds) (i := i) (d := d) h
    exact ⟨y, h1, by rw [h2, Nat.add_right_comm]; rfl⟩
theorem numbered_len : ∀ (n : Nat) (ds : List D), (numbered n ds).length = ds.length
  | _, [] => rfl
  | n, _ :: ds => congrArg Nat.succ (numbered_len (n + 1) ds)
theorem walks_enum {K : Fg} {F : Hp} {a : Addr} {vs : List V} {ds : List D} (ha : F a = some (.lst vs)) (ta : DtA K F vs ds) : Walks K (Ite K.fr a) F (numbered 0 ds) := fun {B F' H σ env} S s i => by
  have q1 : SqL K.fr H a vs := SqL.of (S.fh.lst (s _ _ ha rfl))
  refine ⟨fun d e => ?_, fun hl => ⟨vs, q1, by rw [ta.length]; rw [numbered_len] at hl; exact Nat.le_of_eq hl⟩⟩
  obtain ⟨x, e1, rfl⟩ := numbered_get e
  obtain ⟨v, h1, h2⟩ := ta.get e1
  refine ⟨⟨vs, v, q1, h1⟩, fun z H' y => ?_⟩
  obtain ⟨T, x', rfl, nT, rfl, f1⟩ := y
  have g1 := f1 vs q1
  rw [h1] at g1; cases g1
  rw [Nat.zero_add]
  exact ⟨_, S.new nT, S.subNew nT, .tup upd_same (.cons (.int _) (.cons (h2.mono (s.trans (S.subNew nT))) .nil))⟩
def iEnL (f : Df) : If := fun env => (f env).bind fun r => match r.1 with
  | .list ds => some (numbered 0 ds, r.2)
  | _ => none
def iEnT (f : Df) : If := fun env => (f env).bind fun r => match r.1 with
  | .tuple ds => some (numbered 0 ds, r.2)
  | _ => none
section
variable {X : Cx} {Tb : TbT} {e : Expr} {p pos tpos : Pos} {elts : List Expr} {kk : Nat}
theorem di_enumL {f : Df} (hg : Gl X "enumerate") (hm : X.mg "enumerate" = none) (h : PE X e (tD (X.kg Tb) f)) (hs : starEach [e] X.env = [(false, eval e X.env)] := by rfl) : PI X (.Tuple elts kk tpos) (.Call (.Name "enumerate" p) [e] [] pos) (iD (X.kg Tb) (iEnL f)) :=
  PIi (pi_enum hg hm (pa_cons h pa_nil hs) hs) fun σ H R ⟨B, F, env, ds, env', S, ef, k⟩ => by
    obtain ⟨⟨d, e1⟩, q, ef⟩ := bd ef
    cases d <;> first | (cases ef; done) | skip
    cases ef
    refine ⟨B, F, env, _, _, S, q, fun v F' H' S' s' hd => ?_⟩
    cases hd with
    | lst hq hd => exact ⟨_, _, rfl, SqL.of (S'.fh.lst hq), k _ F' H' S' s' (walks_enum hq hd)⟩
end
end DL
namespace DL
open PySem PySem.Spec PyProof.Rows L2
section
variable {X : Cx} {Tb : TbT} {e : Expr} {k : Nat} {p1 p2 p3 pos : Pos}
def gRev : D → Option D
  | .list ds => some (.list ds.reverse)
  | .tuple ds => some (.tuple ds.reverse)
  | _ => none
end
/-- what may be shared: no marks, no tables -/
def ert (H : Hp) : Hp := fun a => match H a with
  | some (.own _) => none
  | some (.tbl _) => none
  | x => x
theorem ert_some {H : Hp} {a : Addr} {o : HO} (h : ert H a = some o) : H a = some o := by
  unfold ert at h
  split at h
  · cases h
  · cases h
  · exact h
theorem ert_at {H : Hp} {a : Addr} {o : HO} (h : H a = some o) (m : Mk o = false) (n : ¬ TC o) : ert H a = some o := by
  unfold ert
  rw [h]
  cases o <;> first | rfl | exact absurd trivial n | exact Bool.noConfusion m
/-- what is to be shown of a law's data: it comes to True -/
theorem spD_law {K : Fg} {g : List D → Option (D × List D)} {ns : List Int} {H : Hp} {a : Addr} (h : g [.dict [(.none, .list (ns.map .int))]] = some (.bool true, [])) (hT : LamX.Tabs K.T H) (hS : SqL K.fr H a (ns.map V.int)) : spD K [false] .fz g [.ref a] H (fun v _ => v = .bl true) fun _ _ _ => False := by
  refine ⟨ert H, _, _, [], [], fun a o h => .inl (ert_some h), fun a m e => ?_, ⟨fun a ks h => ert_at h rfl fun z => z, hT, fun q z => ?_⟩, .fz (.scr ?_) .nil, fun _ _ _ z => (nomatch z), h, fun v F' H' _ _ _ _ _ _ _ r => (r : Dt K F' v (.bool true)).bool_inv⟩
  · have := ert_some e
    unfold ert at e
    rw [this] at e; cases e
  · obtain ⟨ps, e⟩ := tabs_at hT z
    unfold ert; rw [e]
  · rcases hS with z | z
    · rcases z with z | ⟨ob, z⟩
      · exact .inl (.inl (ert_at z rfl fun y => y))
      · exact .inl (.inr ⟨ob, ert_at z rfl fun y => y⟩)
    · exact .inr z
end DL
namespace DL
open PySem L2
/-- a key's data -/
def keyD : D → Option Key
  | .int i => some (.inl i)
  | .str x => some (.inr x)
  | _ => none
def keysD : List D → Option (List Key)
  | [] => some []
  | d :: ds => (keyD d).bind fun k => (keysD ds).bind fun ks => some (k :: ks)
def keyT : D → Option (List Key)
  | .tuple ds => keysD ds
  | _ => none
theorem keyD_kD (k : Key) : keyD (kD k) = some k := by cases k <;> rfl
theorem keyD_eq {d : D} {k : Key} (h : keyD d = some k) : d = kD k := by
  cases d <;> simp [keyD] at h <;> subst h <;> rfl
theorem keysD_kD : ∀ ks : List Key, keysD (ks.map kD) = some ks
  | [] => rfl
  | k :: ks => by simp [keysD, keyD_kD, keysD_kD ks]
theorem keysD_eq : ∀ {ds : List D} {ks : List Key}, keysD ds = some ks → ds = ks.map kD
  | [], _, h => by cases h; rfl
  | d :: ds, ks, h => by
    obtain ⟨k, h1, h⟩ := bd h
    obtain ⟨r, h2, h⟩ := bd h
    cases h
    rw [keyD_eq h1, keysD_eq h2]; rfl
theorem Dt.keyV {K : Fg} {F : Hp} {v : V} {k : Key} (h : Dt K F v (kD k)) : v = kV k := by
  cases k with
  | inl i => exact h.int_inv
  | inr x => exact h.str_inv
theorem DtA.keysV {K : Fg} {F : Hp} : ∀ {vs : List V} {ks : List Key}, DtA K F vs (ks.map kD) → vs = ks.map kV
  | _, [], .nil => rfl
  | _, k :: ks, .cons h t => by rw [h.keyV, DtA.keysV t]; rfl
/-- what stands at a key -/
def findK (es : List (D × D)) (k : Key) : Option D := (es.find? fun e => decide (keyD e.1 = some k)).map (·.2)
def findT (es : List (D × D)) (k : List Key) : Option D := (es.find? fun e => decide (keyT e.1 = some k)).map (·.2)
theorem DtK.val {K : Fg} {F : Hp} (k : Key) : ∀ {kvs : List (Key × V)} {es : List (D × D)}, DtK K F kvs es → (valV kvs k = none ∧ findK es k = none) ∨ ∃ v d, valV kvs k = some v ∧ findK es k = some d ∧ Dt K F v d
  | _, _, .nil => .inl ⟨rfl, rfl⟩
  | (k', v') :: kvs, _, .cons (d := d) h t => by
    by_cases e : k' = k
    · refine .inr ⟨v', d, valV_pos e, ?_, h⟩
      simp [findK, List.find?_cons, keyD_kD, e]
    · rw [valV_neg (p := (k', v')) e]
      rcases t.val k with ⟨h1, h2⟩ | ⟨v, d', h1, h2, h3⟩
      · refine .inl ⟨h1, ?_⟩
        simpa [findK, List.find?_cons, keyD_kD, e] using h2
      · refine .inr ⟨v, d', h1, ?_, h3⟩
        simpa [findK, List.find?_cons, keyD_kD, e] using h2
theorem DtT.val {K : Fg} {F : Hp} (k : List Key) : ∀ {kvs : List (List Key × V)} {es : List (D × D)}, DtT K F kvs es → (valV kvs k = none ∧ findT es k = none) ∨ ∃ v d, valV kvs k = some v ∧ findT es k = some d ∧ Dt K F v d
  | _, _, .nil => .inl ⟨rfl, rfl⟩
  | (k', v') :: kvs, _, .cons (d := d) h t => by
    by_cases e : k' = k
    · refine .inr ⟨v', d, valV_pos e, ?_, h⟩
      simp [findT, List.find?_cons, keyT, keysD_kD, e]
    · rw [valV_neg (p := (k', v')) e]
      rcases t.val k with ⟨h1, h2⟩ | ⟨v, d', h1, h2, h3⟩
      · refine .inl ⟨h1, ?_⟩
        simpa [findT, List.find?_cons, keyT, keysD_kD, e] using h2
      · refine .inr ⟨v, d', h1, ?_, h3⟩
        simpa [findT, List.find?_cons, keyT, keysD_kD, e] using h2
/-- d's value at k: told, or none there -/
def dGet : D → D → Option (Option D)
  | .dict ((.bool true, .none) :: es), k => (keyT k).bind fun ks => some (findT es ks)
  | .dict es, k => if plainTy (.dict es) = true then (keyD k).bind fun kk => some (findK es kk) else none
  | _, _ => none
section
variable {K : Fg} {B : Bs} {F H : Hp} {σ : L2.St} {env : En}
theorem Bv.dk {v : V} {es : List (D × D)} (h : Bv K F H v (.dict es)) (l : Lk F H) (p : plainTy (.dict es) = true) : ∃ a kvs, v = .ref a ∧ Rd H a (.dK kvs) ∧ DtK K F kvs es := by
  rcases h with h | ⟨a, rfl, _, ho⟩
  · cases h with
    | scr _ => cases p
    | dk e t => exact ⟨_, _, rfl, l.rd rfl (.inl e), t⟩
    | dt e t => cases p
    | exc _ _ => cases p
    | exf _ _ _ _ => cases p
    | fn _ => cases p
    | ins _ _ _ => cases p
  · rcases ho with ⟨kvs, e, t⟩ | ⟨kvs, es', rfl, e, t⟩ | ⟨_, _, _, _, _, rfl, _⟩
    · exact ⟨_, _, rfl, .inl e, t⟩
    · cases p
    · cases p
theorem Bv.dT {v : V} {es : List (D × D)} (h : Bv K F H v (.dict ((.bool true, .none) :: es))) (l : Lk F H) : ∃ a kvs, v = .ref a ∧ Rd H a (.dT kvs) ∧ DtT K F kvs es := by
  rcases h with h | ⟨a, rfl, _, ho⟩
  · cases h with
    | dk e t =>
      obtain ⟨k, q⟩ := t.key _ List.mem_cons_self
      cases k <;> cases q
    | dt e t => exact ⟨_, _, rfl, l.rd rfl (.inl e), t⟩
  · rcases ho with ⟨kvs, e, t⟩ | ⟨kvs, es', e0, e, t⟩ | ⟨_, _, _, _, _, e0, _⟩
    · obtain ⟨k, q⟩ := t.key _ List.mem_cons_self
      cases k <;> cases q
    · cases e0
      exact ⟨_, _, rfl, .inl e, t⟩
    · cases e0
def Told (K : Fg) (F : Hp) (r : Option D) (o : Option V) : Prop := (r = none ∧ o = none) ∨ ∃ d v, r = some d ∧ o = some v ∧ Dt K F v d
theorem dget_ok {x y : V} {d k : D} {r : Option D} (l : Lk F H) (hx : Bv K F H x d) (hy : Bv K F H y k) (h : dGet d k = some r) : ∃ a o, x = .ref a ∧ IsD H a ∧ DGet H a y o ∧ Told K F r o := by
  unfold dGet at h
  split at h
  · obtain ⟨ks, h1, h⟩ := bd h
    cases h
    obtain ⟨a, kvs, rfl, e, t⟩ := hx.dT l
    cases k <;> simp [keyT] at h1
    rename_i ds
    have := keysD_eq h1
    subst this
    obtain ⟨b, vs, rfl, _, hb, tv⟩ := hy.tup l
    rw [tv.keysV] at hb
    refine ⟨a, valV kvs ks, rfl, .inr ⟨kvs, e⟩, .inr ⟨kvs, ks, b, e, rfl, hb, rfl⟩, ?_⟩
    rcases t.val ks with ⟨g1, g2⟩ | ⟨v, d', g1, g2, g3⟩
    · exact .inl ⟨g2, g1⟩
    · exact .inr ⟨d', v, g2, g1, g3⟩
  · split at h
    · rename_i hp
      obtain ⟨kk, h1, h⟩ := bd h
      cases h
      obtain ⟨a, kvs, rfl, e, t⟩ := hx.dk l hp
      have hk := keyD_eq h1
      subst hk
      have hv : y = kV kk := by
        cases kk with
        | inl i => exact hy.int_inv
        | inr z => exact hy.str_inv
      subst hv
      refine ⟨a, valV kvs kk, rfl, .inl ⟨kvs, e⟩, .inl ⟨kvs, kk, e, rfl, rfl⟩, ?_⟩
      rcases t.val kk with ⟨g1, g2⟩ | ⟨v, d', g1, g2, g3⟩
      · exact .inl ⟨g2, g1⟩
      · exact .inr ⟨d', v, g2, g1, g3⟩
    · cases h
  · cases h
end
def rInDict : R2 := fun x y H Q => ∃ a o, y = .ref a ∧ DGet H a x o ∧ Q (.bl o.isSome) H
section
variable {X : Cx} {Tb : TbT}
theorem op_inDict (hu : X.A.units + 1 < cLine) : OpR X (compareOp .In) rInDict := by
  intro pins s σ H x y v u Q I rx ry h
  obtain ⟨a, o, rfl, g, q⟩ := h
  cases ry
  exact d_in hu I g rx fun s' I' => ⟨.bl _, H, I', rfl, q⟩
/-- tuples of whole numbers, texts, None: by the scalar's rule; lists: of any data -/
def gInn (n : Bool) : D → D → Option D := fun k d => match d with
  | .dict es => (dGet (.dict es) k).bind fun r => some (.bool (xor n r.isSome))
  | .list ds => if (noDct k && SeqAt.shaped k && (noDcts ds && SeqAt.shaped (.list ds))) = true then some (.bool (xor n (ds.any fun z => PyData.eqv z k))) else none
  | _ => none
def gIn := gInn false
def rIns (K : Fr) : R2 := fun x y H Q => rInDict x y H Q ∨ rInD K x y H Q
theorem op_ins (hu : X.A.units + 65 < cLine) : OpR X (compareOp .In) (rIns X.K) := OpR.or (op_inDict (by omega)) (op_inD hu)
theorem Told.some {K : Fg} {F : Hp} {r : Option D} {o : Option V} (h : Told K F r o) : o.isSome = r.isSome := by
  rcases h with ⟨rfl, rfl⟩ | ⟨d, v, rfl, rfl, _⟩ <;> rfl
theorem ok_in {K : Fg} : Ok2 K (rIns K.fr) gIn := fun {B F H σ env x y a b d Q} S ha hb e k => by
  unfold gIn gInn at e
  split at e
  · obtain ⟨r, h1, e⟩ := bd e
    cases e
    obtain ⟨p, o, rfl, _, g, t⟩ := dget_ok S.fh hb ha h1
    refine .inl ⟨p, o, rfl, g, ?_⟩
    rw [t.some]
    simpa using k _ F H S (Sub.refl _) (.bl _)
  · split at e
    · rename_i ds h
      cases e
      simp only [Bool.and_eq_true] at h
      refine .inr ⟨_, ds, ha.dp S.fh h.1.1, hb.dp S.fh (by simpa [noDct] using h.2.1), h.1.2, h.2.2, by simpa using k _ F H S (Sub.refl _) (.bl _)⟩
    · cases e
  · cases e
variable {a b e f : Expr} {pos : Pos}
def gIxD : D → D → Option D := fun d k => match d with
  | .dict es => (dGet (.dict es) k).bind fun r => r
  | _ => none
/-- x[k], of a dict or else -/
def gIxs : D → D → Option D := fun d k => match gIx d k with
  | some r => some r
  | none => gIxD d k
theorem PE.or {e : Expr} {t u : TE} (h1 : PE X e t) (h2 : PE X e u) : PE X e (fun σ H Q => t σ H Q ∨ u σ H Q) := ⟨fun pins s σ H Q I q => by
  rcases q with q | q
  · exact h1.run pins s σ H Q I q
  · exact h2.run pins s σ H Q I q⟩
theorem ixs_le {K : Fg} {oa ob : Opd} : ∀ σ H Q, tD K (op2 gIxs oa ob) σ H Q → tOp (fun x y H Q => rIx K.fr x y H Q ∨ ∃ a v, x = .ref a ∧ DGet H a y (some v) ∧ Q v H) (tO K oa) (tO K ob) σ H Q := op2_le fun {B F H σ env x y a b d Q} S ha hb e k => by
  unfold gIxs at e
  split at e
  · rename_i r h
    cases e
    exact .inl (ok_ix S ha hb h k)
  · unfold gIxD at e
    split at e
    · obtain ⟨r, h1, e⟩ := bd e
      subst e
      obtain ⟨p, o, rfl, _, g, t⟩ := dget_ok S.fh ha hb h1
      rcases t with ⟨z, _⟩ | ⟨d', v, z, rfl, hd⟩
      · cases z
      · cases z
        exact .inr ⟨p, v, rfl, g, k _ F H S (Sub.refl _) hd⟩
    · cases e
end
end DL
namespace DL
open PySem PySem.Spec PyProof.Rows L2
section
variable {X : Cx} {Tb : TbT} {a b e f o : Expr} {pos apos cpos : Pos}
def rIxDict : R2 := fun x y H Q => ∃ a v, x = .ref a ∧ DGet H a y (some v) ∧ Q v H
theorem ix_dict (hu : X.A.units + 1 < cLine) : IxR X rIxDict := by
  intro value slice pins s σ H x y v u Q I rx ry h hs
  obtain ⟨a, z, rfl, g, q⟩ := h
  cases rx
  have hT := dict_typeIs I g
  have h₂ : wpAny (model X.prog X.w) X.A (getItem (.ref a) u) (EP X pins σ Q) X.xe s := d_getItem hu I g ry fun w' s3 I3 rw' => ⟨z, H, I3, rw', q⟩
  unfold subscriptTail
  refine wpAny_bind ?_
  rw [getitemInPython_of_ne hT.not_modules]
  refine wpAny_bind (wpAny_specialOf hT PySem.F.slot_dict_getitem.lookup ?_)
  have fin : wpAny (model X.prog X.w) X.A (subscripted slice false (.ref a) u) (fun r s₃ => wpAny (model X.prog X.w) X.A (letTemporaryGo value (.ref a) r >>= fun _ => pure r) (EP X pins σ Q) X.xe s₃) X.xe s := by
    rw [hs]
    exact wpAny_operating (wpAny_mono h₂ (fun r s₃ h₃ => wpAny_bind (wpAny_letTemporaryGo (wpAny_pure h₃))) fun _ _ x => x)
  first
    | exact wpAny_pure (wpAny_bind fin)
    | exact wpAny_bind (wpAny_pure (wpAny_bind fin))
    | exact wpAny_bind fin
theorem de_ixs {oa ob : Opd} (hu : X.A.units + 1 < cLine) (ha : PE X a (tO (X.kg Tb) oa)) (hb : PE X b (tO (X.kg Tb) ob)) (hs : PlainIx b) : PE X (.Subscript a b pos) (tD (X.kg Tb) (op2 gIxs oa ob)) := PEi (pe_ix (IxR.or ix_seq (ix_dict hu)) ha hb hs) ixs_le
def isDc : D → Bool
  | .dict ((.bool true, .none) :: _) => true
  | .dict es => plainTy (.dict es)
  | _ => false
def eGet1 (a k : Opd) : Df := fun env => (a.ev env).bind fun r => (r.1.look r.2).bind fun x => if isDc x = true then (k.ev r.2).bind fun t => (r.1.look t.2).bind fun x => (t.1.look t.2).bind fun y => (dGet x y).bind fun z => some (z.getD .none, t.2) else none
def eGet2 (a k : Opd) (f : Df) : Df := fun env => (a.ev env).bind fun r => (r.1.look r.2).bind fun x => if isDc x = true then (k.ev r.2).bind fun t => (f t.2).bind fun w => (r.1.look w.2).bind fun x => (t.1.look w.2).bind fun y => (dGet x y).bind fun z => some (z.getD w.1, w.2) else none
def isNon : D → Bool
  | .none => true
  | _ => false
theorem Bv.non_iff {K : Fg} {F H : Hp} {v : V} {d : D} (h : Bv K F H v d) : decide (v = .non) = isNon d := by
  rcases h with h | ⟨p, rfl, _, ho⟩
  · cases h <;> simp [isNon]
  · cases d <;> first | exact ho.elim | simp [isNon]
def gIsN (n : Bool) : D → Option D := fun d => some (.bool (xor n (isNon d)))
theorem dt_isN {oa : Opd} {j : Nat} {p' : Pos} (ha : PE X a (tO (X.kg Tb) oa)) : PT X (.Compare a [.Is] [.Constant .none j p'] pos) (tT (X.kg Tb) (bD (op1 (gIsN false) oa))) := PTi (pt_cmp (pc_isN ha)) fun σ H Q ⟨B, F, env, b, env', S, ef, k⟩ => by
  obtain ⟨⟨u, e1⟩, q1, ef⟩ := bd (bD_inv ef)
  obtain ⟨x, q2, ef⟩ := bd ef
  cases ef
  refine ⟨B, F, env, u, _, S, q1, fun v F1 H1 S1 s1 h1 => ⟨_, by rw [(h1.bv S1 q2).non_iff], ?_⟩⟩
  simpa using k F1 H1 S1 s1
def putD (es : List (D × D)) (k : Key) (d : D) : List (D × D) := if (es.any fun e => decide (keyD e.1 = some k)) = true then es.map fun e => if keyD e.1 = some k then (e.1, d) else e else es ++ [(kD k, d)]
def putDT (es : List (D × D)) (k : List Key) (d : D) : List (D × D) := if (es.any fun e => decide (keyT e.1 = some k)) = true then es.map fun e => if keyT e.1 = some k then (e.1, d) else e else es ++ [(.tuple (k.map kD), d)]
theorem DtK.any {K : Fg} {F : Hp} (k : Key) : ∀ {kvs : List (Key × V)} {es : List (D × D)}, DtK K F kvs es → (kvs.any fun kv => decide (kv.1 = k)) = es.any fun e => decide (keyD e.1 = some k)
  | _, _, .nil => rfl
  | _, _, .cons _ t => by simp [List.any_cons, keyD_kD, t.any k]
theorem DtT.any {K : Fg} {F : Hp} (k : List Key) : ∀ {kvs : List (List Key × V)} {es : List (D × D)}, DtT K F kvs es → (kvs.any fun kv => decide (kv.1 = k)) = es.any fun e => decide (keyT e.1 = some k)
  | _, _, .nil => rfl
  | _, _, .cons _ t => by simp [List.any_cons, keyT, keysD_kD, t.any k]
theorem DtK.repl {K : Fg} {F : Hp} {v : V} {d : D} (h : Dt K F v d) (k : Key) : ∀ {kvs : List (Key × V)} {es : List (D × D)}, DtK K F kvs es → DtK K F (kvs.map fun kv => if kv.1 = k then (kv.1, v) else kv) (es.map fun e => if keyD e.1 = some k then (e.1, d) else e)
  | _, _, .nil => .nil
  | (k', v') :: _, _, .cons (d := d') r t => by
    by_cases e : k' = k
    · simp only [List.map_cons, keyD_kD, e, if_true]; exact .cons h (t.repl h k)
    · simp only [List.map_cons, keyD_kD, e, if_false, Option.some.injEq]; exact .cons r (t.repl h k)
theorem DtT.repl {K : Fg} {F : Hp} {v : V} {d : D} (h : Dt K F v d) (k : List Key) : ∀ {kvs : List (List Key × V)} {es : List (D × D)}, DtT K F kvs es → DtT K F (kvs.map fun kv => if kv.1 = k then (kv.1, v) else kv) (es.map fun e => if keyT e.1 = some k then (e.1, d) else e)
  | _, _, .nil => .nil
  | (k', v') :: _, _, .cons (d := d') r t => by
    by_cases e : k' = k
    · simp only [List.map_cons, keyT, keysD_kD, e, if_true]; exact .cons h (t.repl h k)
    · simp only [List.map_cons, keyT, keysD_kD, e, if_false, Option.some.injEq]; exact .cons r (t.repl h k)
theorem DtK.snoc {K : Fg} {F : Hp} {v : V} {d : D} (h : Dt K F v d) (k : Key) : ∀ {kvs : List (Key × V)} {es : List (D × D)}, DtK K F kvs es → DtK K F (kvs ++ [(k, v)]) (es ++ [(kD k, d)])
  | _, _, .nil => .cons h .nil
  | _, _, .cons r t => .cons r (t.snoc h k)
theorem DtT.snoc {K : Fg} {F : Hp} {v : V} {d : D} (h : Dt K F v d) (k : List Key) : ∀ {kvs : List (List Key × V)} {es : List (D × D)}, DtT K F kvs es → DtT K F (kvs ++ [(k, v)]) (es ++ [(.tuple (k.map kD), d)])
  | _, _, .nil => .cons h .nil
  | _, _, .cons r t => .cons r (t.snoc h k)
theorem DtK.put {K : Fg} {F : Hp} {v : V} {d : D} (h : Dt K F v d) (k : Key) {kvs : List (Key × V)} {es : List (D × D)} (t : DtK K F kvs es) : DtK K F (putK kvs k v) (putD es k d) := by
  unfold putK putD
  rw [t.any k]
  split
  · exact t.repl h k
  · exact t.snoc h k
theorem DtT.put {K : Fg} {F : Hp} {v : V} {d : D} (h : Dt K F v d) (k : List Key) {kvs : List (List Key × V)} {es : List (D × D)} (t : DtT K F kvs es) : DtT K F (putK kvs k v) (putDT es k d) := by
  unfold putK putDT
  rw [t.any k]
  split
  · exact t.repl h k
  · exact t.snoc h k
theorem DtK.length {K : Fg} {F : Hp} : ∀ {kvs : List (Key × V)} {es : List (D × D)}, DtK K F kvs es → kvs.length = es.length
  | _, _, .nil => rfl
  | _, _, .cons _ t => congrArg Nat.succ t.length
theorem DtT.length {K : Fg} {F : Hp} : ∀ {kvs : List (List Key × V)} {es : List (D × D)}, DtT K F kvs es → kvs.length = es.length
  | _, _, .nil => rfl
  | _, _, .cons _ t => congrArg Nat.succ t.length
def gPutD (k x : D) : D → Option D
  | .dict ((.bool true, .none) :: es) => if es.length < 100000 then (keyT k).bind fun ks => some (.dict ((.bool true, .none) :: putDT es ks x)) else none
  | .dict es => if plainTy (.dict es) = true ∧ es.length < 100000 then (keyD k).bind fun kk => some (.dict (putD es kk x)) else none
  | _ => none
def ownD : Option Sv → Option D
  | some (.ow (.dict es)) => some (.dict es)
  | some (.pw (.dict es)) => some (.dict es)
  | _ => none
theorem ownD_inv {i : Nat} {env : En} {d : D} (h : ownD env[i]? = some d) : ∃ es, d = .dict es ∧ IsOw env i d := by
  unfold ownD at h
  split at h
  · rename_i q; cases h; exact ⟨_, rfl, .inl q⟩
  · rename_i q; cases h; exact ⟨_, rfl, .inr q⟩
  · cases h
def sPutD (i : Nat) (f : Df) (ob : Opd) : Sf := fun env => (f env).bind fun r => (ownD r.2[i]?).bind fun _ => (ob.ev r.2).bind fun t => (t.1.look t.2).bind fun y => (chgAt i (gPutD y r.1) t.2).bind fun e => some (.nx e)
theorem put_own {K : Fg} {F H : Hp} {p : Addr} {y v : V} {k x d d' : D} (l : Lk F H) (ho : Own K F H p d) (hn : F p = none) (hy : Bv K F H y k) (hv : Dt K F v x) (hg : gPutD k x d = some d') : ∃ o, DPut H p y v (upd H p o) ∧ Own K F (upd H p o) p d' := by
  unfold gPutD at hg
  split at hg
  · split at hg
    · rename_i es hl
      obtain ⟨ks, h1, hg⟩ := bd hg
      cases hg
      rcases ho with ⟨kvs, e, t⟩ | ⟨kvs, es', e0, e, t⟩ | ⟨_, _, _, _, _, e0, _⟩
      · obtain ⟨k, q⟩ := t.key _ List.mem_cons_self
        cases k <;> cases q
      · cases e0
        cases k <;> simp [keyT] at h1
        have := keysD_eq h1
        subst this
        obtain ⟨b, vs, rfl, _, hb, tv⟩ := hy.tup l
        rw [tv.keysV] at hb
        exact ⟨_, DPut.t e hb (by rw [t.length]; exact Nat.lt_of_lt_of_le hl (by decide)), .inr (.inl ⟨_, _, rfl, upd_same, t.put hv ks⟩)⟩
      · cases e0
    · cases hg
  · split at hg
    · rename_i hl
      obtain ⟨kk, h1, hg⟩ := bd hg
      cases hg
      have hk := keyD_eq h1
      subst hk
      have hyv : y = kV kk := by
        cases kk with
        | inl i => exact hy.int_inv
        | inr z => exact hy.str_inv
      subst hyv
      rcases ho with ⟨kvs, e, t⟩ | ⟨kvs, es', e0, e, t⟩ | ⟨_, _, _, _, _, e0, _⟩
      · exact ⟨_, DPut.k e (by rw [t.length]; exact Nat.lt_of_lt_of_le hl.2 (by decide)), .inl ⟨_, upd_same, t.put hv kk⟩⟩
      · subst e0
        cases hl.1
      · subst e0
        cases hl.1
    · cases hg
  · cases hg
theorem dS_putD {wh : Wh} {i : Nat} {x : Str} {ob : Opd} {f : Df} {p1 p2 : Pos} (hu : X.A.units + 1 < cLine) (he : PE X e (tD (X.kg Tb) f)) (hb : PE X b (tO (X.kg Tb) ob)) (hN : X.N[i]? = some x := by rfl) (hv : Vis X.env.scope x := by first | exact Or.inl rfl | exact Or.inr (Or.inl rfl) | exact Or.inr (Or.inr rfl)) (hd : (x == ("__debug__" : Str)) = false := by decide) (hcd : (x == ("__classdict__" : Str)) = false := by decide)
    (hs : swapsWith e (some (.Subscript (.Name x p1) b p2)) pos.line X.env = pure false := by rfl) : PS X (.Assign [.Subscript (.Name x p1) b p2] e pos) (tS (X.kg Tb) wh (sPutD i f ob)) :=
  PSi (ps_dput hu (pe_var hN hv hd hcd) hb he hs) fun E σ H ⟨B, F, env, r, S, ef, k⟩ => by
    obtain ⟨⟨d, e1⟩, q1, ef⟩ := bd ef
    obtain ⟨l0, q2, ef⟩ := bd ef
    obtain ⟨⟨u, e2⟩, q3, ef⟩ := bd ef
    obtain ⟨y, q4, ef⟩ := bd ef
    obtain ⟨e3, q5, ef⟩ := bd ef
    cases ef
    obtain ⟨d0, d1, z, ow, hg, hx, rfl⟩ := chgAt_inv q5
    refine ⟨B, F, env, d, e1, S, q1, fun v F1 H1 S1 s1 hv1 => ?_⟩
    obtain ⟨es0, _, ow0⟩ := ownD_inv q2
    obtain ⟨p, h1, _⟩ := S1.own i _ ow0
    refine ⟨_, h1, B, F1, e1, u, e2, S1, q3, fun w F2 H2 S2 s2 hw2 => ?_⟩
    have hy := hw2.bv S2 q4
    obtain ⟨p', g1, g2, g3, _⟩ := S2.own i _ ow
    rw [h1] at g1; cases g1
    obtain ⟨o, dp, ho⟩ := put_own S2.fh g3 g2 hy (hv1.mono s2) hg
    exact ⟨p, _, rfl, dp, k _ F2 _ (S2.chg ow h1 hx ho) (s1.trans s2)⟩
/-- {} whose keys will be tuples -/
def eDictT : Df := fun env => some (.dict [(.bool true, .none)], env)
theorem de_dictT {pos : Pos} : PE X (.Dict [] [] pos) (tN (X.kg Tb) eDictT) := PEi pe_dnewT fun σ H Q ⟨B, F, env, d, env', S, ef, k⟩ => by
  cases ef
  exact fun p hp => KN.at_new (K := X.kg Tb) k S hp (.inr (.inl ⟨[], [], rfl, upd_same, .nil⟩))
end
end DL
namespace DL
open PySem PySem.Spec PyProof.Rows L2
def eMethR (i : Nat) (g : List D → List D → Option (D × List D)) (os : List Opd) : Df := fun env => (ownL env[i]?).bind fun _ => (evs os env).bind fun r => (fzAll r.1).bind fun ds => (ownL r.2[i]?).bind fun ls => (g ds ls).bind fun z => (chgAt i (fun _ => some (.list z.2)) r.2).bind fun e => some (z.1, e)
section
variable {X : Cx} {Tb : TbT} {e a b : Expr} {es : List Expr} {pos apos cpos : Pos} {x name : Str} {id : String}
/-- xs.index(y), it is there -/
def idxOf (ds : List D) (d : D) : Option Nat := ds.findIdx? fun z => PyData.eqv z d
end
end DL
namespace DL
open PySem PySem.Spec PyProof.Rows L2
def Bs.lock (B : Bs) (d : Addr) (od : Obj) (u : HO) : Bs := { B with L := (d, od, u) :: B.L }
theorem IsDct.ntc {u : HO} (h : IsDct u) : ¬ TC u := by cases u <;> first | exact h.elim | exact fun z => z
theorem IsDct.ne {u : HO} (h : IsDct u) (o : Obj) (v : HO) : u ≠ .frz o v := by rintro rfl; exact h.elim
section
variable {K : Fg} {B : Bs} {F H : Hp} {σ : L2.St} {env : En} {d : Addr} {od : Obj} {u : HO}
theorem Sl.lock (S : Sl K B F H σ env) (hf : F d = some u) (hd : H d = some u) (dc : IsDct u) (od : Obj) : Sl K (B.lock d od u) F (upd H d (.frz od u)) σ env := by
  refine ⟨fun a o e => ?_, S.len, S.fz, fun i x e => ?_, S.ap, S.pm, S.f0, S.nw, fun p o a b c g9 => ?_, fun q hq => ?_, fun q hq => ?_, fun a ob w e h => ?_, fun i s x e => by
    obtain ⟨v, L, g1, g2, g3, g4⟩ := S.tr i s x e
    refine ⟨v, L, g1, g2, g3, fun q hq => ⟨?_, (g4 q hq).2⟩⟩
    have ne : q.1 ≠ d := fun z => by
      have := (g4 q hq).2
      rw [z, hf] at this; cases this; exact dc
    rw [upd_ne ne]; exact (g4 q hq).1, S.mr, fun a g => ⟨by
      by_cases z : a = d
      · subst z; rw [upd_same]; exact fun z => nomatch z
      · rw [upd_ne z]; exact (S.gv a g).1, (S.gv a g).2⟩, fun a ks h => by
      by_cases z : a = d
      · subst z; rw [upd_same] at h; cases h
      · rw [upd_ne z] at h; exact S.kt a ks h, ⟨tabs_chg S.tb.now hd dc.ntc, S.tb.at0, S.tb.nf⟩⟩
  rotate_right
  · by_cases z : a = d
    · subst z
      rw [hf] at e; cases e
      rw [upd_same] at h; cases h
      exact .inl List.mem_cons_self
    · rw [upd_ne z] at h
      rcases S.lk a ob w e h with g | ⟨g1, g2, g3, g8⟩
      · exact .inl (List.mem_cons_of_mem _ g)
      · refine .inr ⟨g1, g2, fun w hw => ?_, g8⟩
        rcases List.mem_cons.mp hw with e | hw
        · cases e; exact z rfl
        · exact g3 w hw
  · by_cases z : a = d
    · subst z; rw [hf] at e; cases e; exact .inr (.inl ⟨dc, od, upd_same⟩)
    · rw [upd_ne z]; exact S.fh a o e
  · obtain ⟨p, h1, h2, h3, h4⟩ := S.own i x e
    have ne : p ≠ d := by rintro rfl; rw [h2] at hf; cases hf
    exact ⟨p, h1, h2, h3.mono (Sub.refl _) fun v hv => by rw [upd_ne ne]; exact hv, h4⟩
  · have ne : p ≠ d := by rintro rfl; exact c _ List.mem_cons_self
    rw [upd_ne ne]
    exact S.kp p o a b (fun w hw => c w (List.mem_cons_of_mem _ hw)) g9
  · rcases List.mem_cons.mp hq with rfl | hq
    · exact ⟨upd_same, hf⟩
    · obtain ⟨g1, g2⟩ := S.lc q hq
      have ne : q.1 ≠ d := fun z => by rw [z, hd] at g1; cases g1; exact dc
      exact ⟨by rw [upd_ne ne]; exact g1, g2⟩
  · obtain ⟨g1, g2, g3⟩ := S.hx q hq
    have ne : q.1 ≠ d := fun z => by rw [z, hf] at g2; cases g2
    exact ⟨by rw [upd_ne ne]; exact g1, g2, g3⟩
theorem Sl.unlock (S : Sl K (B.lock d od u) F H σ env) (nl : ∀ w, (d, w) ∉ B.L) (kd : ∀ o, B.H0 d = some o → (∀ j, (j, d) ∉ B.M) → ¬ B.G d → o = u) : Sl K B F (upd H d u) σ env ∧ H d = some (.frz od u) := by
  obtain ⟨hd, hf⟩ : H d = some (.frz od u) ∧ F d = some u := S.lc (d, od, u) List.mem_cons_self
  refine ⟨⟨fun a o e => ?_, S.len, S.fz, fun i x e => ?_, S.ap, S.pm, S.f0, S.nw, fun p o a b c g9 => ?_, fun q hq => ?_, fun q hq => ?_, fun a ob w e h => ?_, fun i s x e => by
    obtain ⟨v, L, g1, g2, g3, g4⟩ := S.tr i s x e
    refine ⟨v, L, g1, g2, g3, fun q hq => ⟨?_, (g4 q hq).2⟩⟩
    have ne : q.1 ≠ d := fun z => by
      have := (g4 q hq).1
      rw [z, hd] at this
      exact g2.nz q hq _ _ (Option.some.inj this).symm
    rw [upd_ne ne]; exact (g4 q hq).1, S.mr, fun a g => ⟨by
      by_cases z : a = d
      · subst z; rw [upd_same]; exact fun z => nomatch z
      · rw [upd_ne z]; exact (S.gv a g).1, (S.gv a g).2⟩, fun a ks h => by
      by_cases z : a = d
      · subst z; rw [upd_same] at h; rw [hf]; exact h
      · rw [upd_ne z] at h; exact S.kt a ks h, ⟨tabs_chg S.tb.now hd (fun z => z), S.tb.at0, S.tb.nf⟩⟩, hd⟩
  rotate_right
  · by_cases z : a = d
    · subst z
      rw [hf] at e; cases e
      rw [upd_same] at h
      exact absurd (Option.some.inj h) frz_ne
    · rw [upd_ne z] at h
      rcases S.lk a ob w e h with g | ⟨g1, g2, g3, g8⟩
      · rcases List.mem_cons.mp g with e | g
        · cases e; exact absurd rfl z
        · exact .inl g
      · exact .inr ⟨g1, g2, fun w hw => g3 w (List.mem_cons_of_mem _ hw), g8⟩
  · by_cases z : a = d
    · subst z; rw [hf] at e; cases e; exact .inl upd_same
    · rw [upd_ne z]; exact S.fh a o e
  · obtain ⟨p, h1, h2, h3, h4⟩ := S.own i x e
    have ne : p ≠ d := by rintro rfl; rw [h2] at hf; cases hf
    exact ⟨p, h1, h2, h3.mono (Sub.refl _) fun v hv => by rw [upd_ne ne]; exact hv, h4⟩
  · by_cases z : p = d
    · subst z; rw [upd_same, kd o a b g9]
    · rw [upd_ne z]
      refine S.kp p o a b (fun w hw => ?_) g9
      rcases List.mem_cons.mp hw with e | hw
      · cases e; exact z rfl
      · exact c w hw
  · obtain ⟨g1, g2⟩ := S.lc q (List.mem_cons_of_mem _ hq)
    have ne : q.1 ≠ d := fun z => nl q.2 (by rw [← z]; exact hq)
    exact ⟨by rw [upd_ne ne]; exact g1, g2⟩
  · obtain ⟨g1, g2, g3⟩ := S.hx q hq
    have ne : q.1 ≠ d := fun z => by rw [z, hf] at g2; cases g2
    exact ⟨by rw [upd_ne ne]; exact g1, g2, g3⟩
end
def Un (X : Cx) (H : Hp) (Q : Hp → Prop) : Prop := Q H ∨ ∃ d od u, H d = some (.frz od u) ∧ (∀ o' u', X.H_0 d ≠ some (.frz o' u')) ∧ Q (upd H d u)
section
variable {X : Cx} {Tb : TbT}
variable {tg e : Expr} {td : TE} {apos cpos : Pos}
theorem Un.imp {H : Hp} {P Q : Hp → Prop} (h : Un X H P) (k : ∀ H', P H' → Q H') : Un X H Q := by
  rcases h with h | ⟨d, od, u, e, n, h⟩
  · exact .inl (k _ h)
  · exact .inr ⟨d, od, u, e, n, k _ h⟩
end
end DL
namespace DL
open PySem L2
/-- a dict's keys -/
def iK (f : Df) : If := fun env => (f env).bind fun r => match r.1 with
  | .dict ((.bool true, .none) :: _) => none
  | .dict es => if plainTy (.dict es) = true then some (es.map (·.1), r.2) else none
  | _ => none
/-- it stays locked -/
def Stays (B : Bs) (d : Addr) (od : Obj) (u : HO) : Prop := (d, od, u) ∈ B.L ∨ (B.H0 d = some (.frz od u) ∧ (∀ j, (j, d) ∉ B.M) ∧ (∀ w, (d, w) ∉ B.L) ∧ ¬ B.G d)
theorem Stays.at {K : Fg} {B : Bs} {F H : Hp} {σ : L2.St} {env : En} {d : Addr} {od : Obj} {u : HO} {X : List (Addr × HO)} (h : Stays B d od u) (S : Sl K { B with X := X } F H σ env) : H d = some (.frz od u) := by
  rcases h with h | ⟨h1, h2, h3, h4⟩
  · exact (S.lc _ h).1
  · exact S.kp d _ h1 h2 h3 h4
end DL
namespace DL
open PySem PySem.Spec PyProof.Rows L2
def prD (e : D × D) : D := .tuple [e.1, e.2]
def keyI : List (D × D) → Option (List Int)
  | [] => some []
  | (.int i, _) :: r => (keyI r).bind fun is => some (i :: is)
  | _ :: _ => none
end DL
namespace DL
open PySem PySem.Spec PyProof.Rows L2
def mergeD (es : List (D × D)) (md : List (Key × D)) : List (D × D) := md.foldl (fun acc q => putD acc q.1 q.2) es
def pairsOf : List D → Option (List (Key × D))
  | [] => some []
  | .tuple [k, v] :: r => (keyD k).bind fun kk => (pairsOf r).bind fun md => some ((kk, v) :: md)
  | _ :: _ => none
def gDictOf : List D → Option D
  | [.list ds] => (pairsOf ds).bind fun md => some (.dict (mergeD [] md))
  | [.dict es] => if plainTy (.dict es) = true then some (.dict es) else none
  | _ => none
def evP : List (Df × Df) → En → Option (List (Key × D) × En)
  | [], env => some ([], env)
  | (f, g) :: r, env => (f env).bind fun a => (keyD a.1).bind fun k => (g a.2).bind fun b => (evP r b.2).bind fun z => some ((k, b.1) :: z.1, z.2)
def eDisp (ps : List (Df × Df)) : Df := fun env => if ps.length ≤ 15 then (evP ps env).bind fun r => some (.dict (mergeD [] r.1), r.2) else none
end DL
namespace DL
open PySem L2
def dcGo (vs : List Nat) (t : Tg) (c : Bf) (f g : Df) : List D → List (D × D) → En → Option (List (D × D) × En)
  | [], acc, env => some (acc, env)
  | d :: ds, acc, env => (t d env).bind fun e1 => (c e1).bind fun b => if b.1 = true then (f b.2).bind fun x => (keyD x.1).bind fun k => (g x.2).bind fun y => (wipeE vs y.2).bind fun e => dcGo vs t c f g ds (putD acc k y.1) e else (wipeE vs b.2).bind fun e => dcGo vs t c f g ds acc e
def eDc (vs : List Nat) (t : Tg) (it : If) (c : Bf) (f g : Df) : Df := fun env => (it env).bind fun r => if r.1.length < 100000 then (wipeE vs r.2).bind fun e => (dcGo vs t c f g r.1 [] e).bind fun z => some (.dict z.1, restore vs r.2 z.2) else none
end DL
namespace DL
open PySem PySem.Spec PySem.W PyProof.Rows L2
/-- the values that a starred target takes: i ahead of the star, n in all -/
def gStarT (K : Fr) (n i : Nat) (t : TGs) : TG := fun v σ H Q => ∃ a xs, v = .ref a ∧ SqT K H a xs ∧ i < n ∧ n ≤ xs.length + 1 ∧ xs.length ≤ 16384 ∧ ∀ D, H D = none → t (xs.take i ++ [.ref D] ++ (xs.drop i).drop (xs.length + 1 - n)) σ (upd H D (.lst ((xs.drop i).take (xs.length + 1 - n)))) Q
section
variable {X : Cx} {Tb : TbT} {pos : Pos}
theorem pg_star {es : List Expr} {k : Nat} {t : TGs} {n i : Nat} (hc : X.calm = true) (h : PGs X es t) (hn : (assignEach es X.env).length = n := by rfl) (hst : (assignEach es X.env).findIdx? (·.1) = some i := by rfl) : PG X (.Tuple es k pos) (gStarT X.K n i t) := by
  refine ⟨fun pins s σ H v u Q I r hw => ?_⟩
  obtain ⟨a, xs, e1, hq, hi, hn', hz, hw⟩ := hw
  subst e1
  cases r
  obtain ⟨its, rv, ht, _⟩ := I.tuple hq
  have hh : X.A.handled = none := I.ok.hd hc
  have hl := rv.length
  have hsz : its.toArray.size = xs.length := by simp [hl]
  have hlt : a ≠ s.heap.objs.size := by obtain ⟨o, ho, _⟩ := ht; exact Nat.ne_of_lt (Heap.lt_size ho)
  rw [assign_Tuple]
  refine wpAny_bind (wpAny_standAt ?_)
  unfold unpack
  rw [hn, hst]
  refine wpAny_bind (wpAny_holding ?_)
  unfold unpackItems
  refine wpAny_bind ?_
  unfold notIterableAtAll
  refine wpAny_bind (wpAny_specialOf ht.typeIs slot_tuple_iter.lookup ?_)
  refine wpAny_pure ?_
  simp only [Bool.false_eq_true, if_false]
  refine wpAny_bind (wpAny_holding (iter_tuple ht ?_))
  refine wpAny_bind (wpAny_holding (draw_tuple hlt i 0 _ _ ⟨_, Heap.get?_push_size _ rfl, rfl, rfl⟩ (ht.push _) (by omega) fun h₁ hit₁ hs₁ => ?_))
  have hl₁ : IsTup h₁ a its.toArray := (ht.push _).extBut hs₁.extBut hlt
  rw [Nat.zero_add] at hit₁
  have hit₁' := hit₁
  obtain ⟨oi, hoi, _⟩ := hit₁'
  have hl₁' := hl₁
  obtain ⟨ol, hol, _⟩ := hl₁'
  rw [List.drop_zero]
  have hfl : (its.toArray.toList.take i).length = i := by rw [List.length_take, Array.length_toList]; omega
  rw [if_neg (show ¬ ((its.toArray.toList.take i).length < i) by rw [hfl]; omega)]
  refine wpAny_bind (wpAny_holding (kun_collect (s := { s with heap := h₁ }) (T := "tuple_iterator") (.inr (.inr (.inr rfl))) (Walks.tuple (A := X.A.in1) hh s.heap.objs.size a hlt its.toArray) (fun j u st => st.1.typeIs) (k := i) (by omega) ⟨hit₁, hl₁⟩ (Heap.lt_size hoi) (Heap.lt_size hol) (fun h₂ tk hk => ?_) (by rw [sizeLine_eq]; omega)))
  have hrl : (its.toArray.toList.drop i).length = its.toArray.size - i := by rw [List.length_drop, Array.length_toList]
  have hmid : (its.toArray.toList.drop i).length - (n - 1 - i) = xs.length + 1 - n := by rw [hrl]; omega
  show wpAny _ _ (if (its.toArray.toList.drop i).length < n - 1 - i then _ else _) _ _ _
  rw [if_neg (by rw [hrl]; omega)]
  show wpAny _ _ (newList ((its.toArray.toList.drop i).take ((its.toArray.toList.drop i).length - (n - 1 - i))) >>= fun d => pure (its.toArray.toList.take i ++ [d] ++ (its.toArray.toList.drop i).drop ((its.toArray.toList.drop i).length - (n - 1 - i)))) _ _ _
  rw [hmid]
  have he : Heap.ExtBut s.heap.objs.size s.heap h₂ := fun b o hb e => hk b o hb (hs₁.extBut b o hb (Heap.get?_push_of_some _ e))
  have I1 : Inv X pins σ H { s with heap := h₂, toks := tk } := I.kept fun b o e => he b o (Nat.ne_of_lt (Heap.lt_size e)) e
  have rm : Vals ((xs.drop i).take (xs.length + 1 - n)) ((its.drop i).take (xs.length + 1 - n)) := (rv.drop _).take _
  refine wpAny_bind (wpAny_newList ?_ (by rw [List.length_take, hrl, sizeLine_eq]; omega))
  refine wpAny_pure ?_
  have I2 := I1.lnew (t' := tk) rm (by rw [List.length_take, sizeLine_eq]; omega)
  refine h.run pins _ σ _ _ _ Q I2 ?_ (hw _ I1.fresh)
  have rD : RelV (.ref h₂.objs.size) (.ref h₂.objs.size) := rfl
  exact ((rv.take i).append (.cons rD .nil)).append ((rv.drop i).drop _)
theorem pgs_starred {e : Expr} {p : Pos} {es : List Expr} {t : TG} {u : TGs} (h1 : PG X e t) (h2 : PGs X es u) (hs : (assignEach (.Starred e p :: es) X.env).map (·.2) = assign e X.env :: (assignEach es X.env).map (·.2) := by rfl) : PGs X (.Starred e p :: es) (gCons t u) := by
  refine ⟨fun pins s σ H vs us Q I r h => ?_⟩
  obtain ⟨v, vr, e1, h⟩ := h
  subst e1
  cases r with
  | cons r rr =>
    rw [hs]
    refine assignInOrder_cons (thn (h1.run pins s σ H _ _ _ I r h) fun _ s1 ⟨σ1, H1, I1, q1⟩ => ?_)
    exact h2.run pins s1 σ1 H1 _ _ Q I1 rr q1
theorem dgs_star {e : Expr} {p : Pos} {es : List Expr} {t : Tg} {r : List D → En → Option En} {ts us : List Nat} (h1 : PG X e (gD (X.kg Tb) t ts)) (h2 : PGs X es (gsD (X.kg Tb) r us)) (hs : (assignEach (.Starred e p :: es) X.env).map (·.2) = assign e X.env :: (assignEach es X.env).map (·.2) := by rfl) : PGs X (.Starred e p :: es) (gsD (X.kg Tb) (tgsCons t r) (ts ++ us)) :=
  PGsi (pgs_starred h1 h2 hs) fun v σ H Q ⟨B, F, env, ds, env', S, hd, et, k⟩ => by
    cases hd with
    | nil => cases et
    | cons h hd =>
      obtain ⟨e1, q, et⟩ := bd et
      exact ⟨_, _, rfl, B, F, env, _, e1, S, h, q, fun σ1 F1 H1 S1 s1 b1 => ⟨B, F1, e1, _, env', S1, hd.mono s1, et, fun σ2 F2 H2 S2 s2 b2 => k σ2 F2 H2 S2 (s1.trans s2) ⟨b2.1.trans b1.1, fun j hj => (b2.2 j fun z => hj (List.mem_append_right _ z)).trans (b1.2 j fun z => hj (List.mem_append_left _ z))⟩⟩⟩
end
end DL
namespace DL
open PySem PySem.Spec PyProof.Rows L2
theorem units65 {k : Nat} {A : Around} (r : Room k A) : A.units + 65 < cLine := by have := r.un; omega
section
variable {prog : Program} {w : World} {A : Around} {s : Shared}
/-- a tuple of whole numbers, one at least -/
def IsIT (h : Heap) (v : Value) (ns : List Int) : Prop := ∃ a o us n, v = .ref a ∧ h.get? a = some o ∧ o.cls = .type "tuple" ∧ o.data = .seq us n ∧ IntsAre us.toList ns ∧ ns ≠ []
theorem IsIT.keeps {h h' : Heap} {v : Value} {ns : List Int} (x : IsIT h v ns) (kp : ∀ b o, h.get? b = some o → o.cls = .type "tuple" → h'.get? b = some o) : IsIT h' v ns := by
  obtain ⟨a, o, us, n, e, ho, hc, r⟩ := x
  exact ⟨a, o, us, n, e, kp a o ho hc, hc, r⟩
end
end DL
namespace DL
open PySem L2
def tupD (ns : List Int) : D := .tuple (ns.map .int)
def iV : V → Option Int
  | .int i => some i
  | _ => none
def keyV (F : Hp) : V → List Int
  | .ref t => (match F t with
    | some (.tup vs) => vs.filterMap iV
    | _ => [])
  | _ => []
end DL
namespace DL
open PySem PySem.Spec PyProof.Rows L2
section
variable {prog : Program} {w : World} {A : Around} {s : Shared}
/-- a pair whose first is a whole number -/
def IsFT (h : Heap) (v : Value) (x : Int) : Prop := ∃ a o t y n, v = .ref a ∧ h.get? a = some o ∧ o.cls = .type "tuple" ∧ o.data = .seq #[.int x t, y] n
theorem IsFT.keeps {h h' : Heap} {v : Value} {x : Int} (z : IsFT h v x) (kp : ∀ b o, h.get? b = some o → o.cls = .type "tuple" → h'.get? b = some o) : IsFT h' v x := by
  obtain ⟨a, o, t, y, n, e, ho, hc, r⟩ := z
  exact ⟨a, o, t, y, n, e, kp a o ho hc, hc, r⟩
end
end DL
namespace DL
open PySem PySem.Spec PyProof.Rows L2 LiI
def keyOf (e : D × D) : Int := match e.1 with
  | .int i => i
  | _ => 0
def insE (e : D × D) : List (D × D) → List (D × D)
  | [] => [e]
  | x :: r => if keyOf e ≤ keyOf x then e :: x :: r else x :: insE e r
def sortE : List (D × D) → List (D × D)
  | [] => []
  | x :: r => insE x (sortE r)
def gSItems : D → Option D
  | .dict es => (keyI es).bind fun ks => if ks.Nodup then some (.list ((sortE es).map prD)) else none
  | _ => none
end DL
namespace DL
open PySem L2
theorem units1 {k : Nat} {A : Around} (r : Room k A) : A.units + 1 < cLine := by have := r.un; omega
/-- nobody's nodes -/
def Loose (B : Bs) (F H : Hp) (σ : L2.St) (env : En) (L : Nodes) : Prop := ∀ q ∈ L, H q.1 = some q.2 ∧ F q.1 = none ∧ B.H0 q.1 = none ∧ (∀ i e, IsOw env i e → σ[i]? ≠ some (some (.ref q.1))) ∧ ∀ x ∈ B.X, x.1 ≠ q.1
section
variable {K : Fg} {B : Bs} {F H : Hp} {σ : L2.St} {env : En}
theorem Sl.setT (S : Sl K B F H σ env) {i : Nat} {v : V} {s : Sh} {d : D} {L : Nodes} (hi : i < env.length) (np : ∀ d, ¬ IsPw env i d) (t : Tr K F s v d L) (nd : Ndp L) (lo : Loose B F H σ env L) :
    ∃ F', Sub F F' ∧ Sl K B F' H (σ.set i (some v)) (env.set i (.tr s d)) := by
  obtain ⟨F', hF'⟩ : ∃ F' : Hp, F' = fun a => if a ∈ L.map (·.1) then some (.own i) else F a := ⟨_, rfl⟩
  have fin : ∀ a, a ∈ L.map (·.1) → F' a = some (.own i) ∧ F a = none ∧ B.H0 a = none ∧ H a ≠ none := fun a ha => by
    obtain ⟨q, hq, rfl⟩ := List.mem_map.mp ha
    exact ⟨by rw [hF']; exact if_pos ha, (lo q hq).2.1, (lo q hq).2.2.1, by rw [(lo q hq).1]; exact fun z => nomatch z⟩
  have fout : ∀ a, a ∉ L.map (·.1) → F' a = F a := fun a ha => by rw [hF']; exact if_neg ha
  have fo : ∀ a o, F a = some o → F' a = some o := fun a o e => by rw [fout a (fun z => by rw [(fin a z).2.1] at e; cases e)]; exact e
  have sb : Sub F F' := fun a o e _ => fo a o e
  have hs : i < σ.length := S.len ▸ hi
  have ow' : ∀ {j : Nat} {x : D}, IsOw (env.set i (.tr s d)) j x → j ≠ i ∧ IsOw env j x := fun {j x} q => by
    rcases q with q | q
    · rcases set_other hi q with ⟨_, z⟩ | ⟨a, b⟩
      · cases z
      · exact ⟨a, .inl b⟩
    · rcases set_other hi q with ⟨_, z⟩ | ⟨a, b⟩
      · cases z
      · exact ⟨a, .inr b⟩
  refine ⟨F', sb, fun a u e => ?_, by simpa using S.len, fun j x q => ?_, fun j x q => ?_, fun j k x y p a b c d => ?_, fun q hq => ?_, S.f0.trans sb, fun q a b => ?_, S.kp, fun q hq => ⟨(S.lc q hq).1, fo _ _ (S.lc q hq).2⟩, fun q hq => ?_, fun a ob u e h => ?_, fun j s' y q => ?_, fun a m e => ?_, fun a g => ⟨(S.gv a g).1, S.gm (fun b hb => fout b (fun z => hb (fin b z).2.2.1)) g⟩, fun a ks h => fo _ _ (S.kt a ks h), S.tb⟩
  · by_cases ha : a ∈ L.map (·.1)
    · rw [(fin a ha).1] at e; cases e; exact .inr (.inr ⟨rfl, (fin a ha).2.2.2⟩)
    · rw [fout a ha] at e; exact S.fh a u e
  · rcases set_other hi q with ⟨rfl, z⟩ | ⟨a, b⟩
    · cases z
    · rw [sset_other a]
      obtain ⟨w, h1, h2⟩ := S.fz j x b
      exact ⟨w, h1, h2.mono sb⟩
  · obtain ⟨hj, q⟩ := ow' q
    rw [sset_other hj]
    obtain ⟨p, h1, h2, h3, h4⟩ := S.own j x q
    refine ⟨p, h1, ?_, h3.mono sb fun _ z => z, h4⟩
    rw [fout p (fun z => ?_)]
    · exact h2
    · obtain ⟨r, hr, rfl⟩ := List.mem_map.mp z
      exact (lo r hr).2.2.2.1 j x q h1
  · obtain ⟨hj, a⟩ := ow' a
    obtain ⟨hk, b⟩ := ow' b
    rw [sset_other hj] at c
    rw [sset_other hk] at d
    exact S.ap j k x y p a b c d
  · obtain ⟨⟨x, hx⟩, h2⟩ := S.pm q hq
    have : q.1 ≠ i := by
      rintro z
      rw [z] at hx
      exact np x hx
    unfold IsPw
    rw [List.getElem?_set_ne (Ne.symm this), sset_other this]
    exact ⟨⟨x, hx⟩, h2⟩
  · by_cases ha : q ∈ L.map (·.1)
    · exact (fin q ha).2.2.1
    · rw [fout q ha] at b; exact S.nw q a b
  · obtain ⟨g1, g2, g3, g4⟩ := S.hx q hq
    refine ⟨g1, ?_, g3, fun j x h => by
      obtain ⟨hj, h⟩ := ow' h
      rw [sset_other hj]
      exact g4 j x h⟩
    rw [fout _ (fun z => ?_)]
    · exact g2
    · obtain ⟨r, hr, e⟩ := List.mem_map.mp z
      exact (lo r hr).2.2.2.2 q hq e.symm
  · by_cases ha : a ∈ L.map (·.1)
    · obtain ⟨r, hr, rfl⟩ := List.mem_map.mp ha
      rw [(lo r hr).1] at h
      exact absurd (Option.some.inj h) (t.nz r hr _ _)
    · rw [fout a ha] at e; exact S.lk a ob u e h
  · by_cases hj : j = i
    · subst hj
      have hq : s' = s ∧ y = d := by
        rcases q with q | q
        · rw [List.getElem?_set_self hi] at q; cases q; exact ⟨rfl, rfl⟩
        · rw [List.getElem?_set_self hi] at q; cases q
      obtain ⟨rfl, rfl⟩ := hq
      exact ⟨v, L, by rw [List.getElem?_set_self hs], t.mono sb, nd, fun r hr => ⟨(lo r hr).1, (fin r.1 (List.mem_map.mpr ⟨r, hr, rfl⟩)).1⟩⟩
    · have q : IsTr env j s' y := by
        rcases q with q | q
        · rw [List.getElem?_set_ne (Ne.symm hj)] at q; exact .inl q
        · rw [List.getElem?_set_ne (Ne.symm hj)] at q; exact .inr q
      rw [sset_other hj]
      obtain ⟨w, L', h1, h2, h3, h4⟩ := S.tr j s' y q
      exact ⟨w, L', h1, h2.mono sb, h3, fun r hr => ⟨(h4 r hr).1, fo _ _ (h4 r hr).2⟩⟩
  · by_cases ha : a ∈ L.map (·.1)
    · exact .inl (fin a ha).2.2.1
    · rw [fout a ha] at e; exact S.mr a m e
/-- a name's tree is changed -/
theorem Sl.chgT (S : Sl K B F H σ env) {i : Nat} {v : V} {s s' : Sh} {d d' : D} {L L' : Nodes} {F' H' : Hp} {x : Sv} (q : IsTr env i s d) (hx : (env[i]? = some (.tr s d) ∧ x = .tr s' d') ∨ (env[i]? = some (.tw s d) ∧ x = .tw s' d')) (hv : σ[i]? = some (some v)) (t : Tr K F s v d L) (hL : ∀ q ∈ L, H q.1 = some q.2 ∧ F q.1 = some (.own i))
    (t' : Tr K F' s' v d' L') (nd : Ndp L') (hL' : ∀ q ∈ L', H' q.1 = some q.2 ∧ F' q.1 = some (.own i)) (hF : ∀ a, F' a = F a ∨ (F a = none ∧ H a = none ∧ a ∈ L'.map (·.1)))
    (hH : ∀ a, a ∉ L.map (·.1) → H a ≠ none → H' a = H a) (hN : ∀ a, H a ≠ none → H' a ≠ none) (hz : ∀ a, a ∈ L.map (·.1) → ∀ ob u, H' a ≠ some (.frz ob u)) (hk : ∀ a (ks : List Key), H' a = some (.tup (ks.map kV)) → H a = some (.tup (ks.map kV))) (ho : ObSh s d → ObSh s' d') : Sl K B F' H' σ (env.set i x) := by
  have hi : i < env.length := by rcases q with q | q <;> exact (List.getElem?_eq_some_iff.mp q).1
  have mki : ∀ a, a ∈ L.map (·.1) → F a = some (.own i) := fun a ha => by
    obtain ⟨r, hr, rfl⟩ := List.mem_map.mp ha
    exact (hL r hr).2
  have fo : ∀ a o, F a = some o → F' a = some o := fun a o e => by
    rcases hF a with g | ⟨g, _⟩
    · rw [g]; exact e
    · rw [g] at e; cases e
  have sb : Sub F F' := fun a o e _ => fo a o e
  have fn : ∀ a, F a = none → H a ≠ none → F' a = none := fun a e n => by
    rcases hF a with g | ⟨_, g, _⟩
    · rw [g]; exact e
    · exact absurd g n
  have keep : ∀ a o, F a ≠ some (.own i) → H a = some o → H' a = some o := fun a o n e => by
    rw [hH a (fun z => n (mki a z)) (by rw [e]; exact fun z => nomatch z)]; exact e
  have hxi : (env.set i x)[i]? = some x := List.getElem?_set_self hi
  have fl : ∀ {j : Nat} {y : Sv}, (env.set i x)[j]? = some y → (∀ a b, y ≠ .tr a b ∧ y ≠ .tw a b) → j ≠ i ∧ env[j]? = some y := fun {j y} e n => by
    rcases set_other hi e with ⟨_, w⟩ | g
    · rcases hx with ⟨_, hx⟩ | ⟨_, hx⟩
      · rw [hx] at w; exact absurd w (n _ _).1
      · rw [hx] at w; exact absurd w (n _ _).2
    · exact g
  have ow' : ∀ {j : Nat} {y : D}, IsOw (env.set i x) j y → j ≠ i ∧ IsOw env j y := fun {j y} o => by
    rcases o with o | o
    · obtain ⟨a, b⟩ := fl o (fun _ _ => ⟨(by intro z; cases z), (by intro z; cases z)⟩)
      exact ⟨a, .inl b⟩
    · obtain ⟨a, b⟩ := fl o (fun _ _ => ⟨(by intro z; cases z), (by intro z; cases z)⟩)
      exact ⟨a, .inr b⟩
  refine ⟨fun a u e => ?_, by simpa using S.len, fun j y e => ?_, fun j y o => ?_, fun j k y w p a b => S.ap j k y w p (ow' a).2 (ow' b).2, fun r hr => ?_, S.f0.trans sb, fun r a b => ?_, fun r u a b c g9 => ?_, fun r hr => ?_, fun r hr => ?_, fun a ob u e h => ?_, fun j s1 y o => ?_, fun a m e => ?_, fun a g => ⟨hN a (S.gv a g).1, S.gm (fun b hb => by
    rcases hF b with z | ⟨_, z, _⟩
    · exact z
    · exact absurd (S.fresh z) hb) g⟩, fun a ks h => fo _ _ (S.kt a ks (hk a ks h)), ⟨tabs_step S.tb.now fun b o e c => by
      rw [hH b (fun z => ?_) (by rw [e]; exact fun z => nomatch z)]
      · exact e
      · obtain ⟨r, hr, rfl⟩ := List.mem_map.mp z
        rw [(hL r hr).1] at e; cases e
        exact t.ntc r hr c, S.tb.at0, S.tb.nf⟩⟩
  · rcases hF a with g | ⟨g1, g2, g3⟩
    · rw [g] at e
      rcases S.fh a u e with z | ⟨z, ob, w⟩ | ⟨z, w⟩
      · by_cases hm : F a = some (.own i)
        · rw [hm] at e; cases e
          exact .inr (.inr ⟨rfl, hN a (by rw [z]; exact fun z => nomatch z)⟩)
        · exact .inl (keep a _ hm z)
      · have hm : F a ≠ some (.own i) := fun q => by rw [q] at e; cases e; exact z
        exact .inr (.inl ⟨z, ob, keep a _ hm w⟩)
      · exact .inr (.inr ⟨z, hN a w⟩)
    · obtain ⟨r, hr, rfl⟩ := List.mem_map.mp g3
      rw [(hL' r hr).2] at e; cases e
      exact .inr (.inr ⟨rfl, by rw [(hL' r hr).1]; exact fun z => nomatch z⟩)
  · obtain ⟨_, b⟩ := fl e (fun _ _ => ⟨(by intro z; cases z), (by intro z; cases z)⟩)
    obtain ⟨w, h1, h2⟩ := S.fz j y b
    exact ⟨w, h1, h2.mono sb⟩
  · obtain ⟨hj, o⟩ := ow' o
    obtain ⟨p, h1, h2, h3, h4⟩ := S.own j y o
    obtain ⟨u, hu, _⟩ := h3.some
    have hm : F p ≠ some (.own i) := by rw [h2]; exact fun z => nomatch z
    exact ⟨p, h1, fn p h2 (by rw [hu]; exact fun z => nomatch z), h3.mono sb fun w hw => keep p w hm hw, h4⟩
  · obtain ⟨⟨y, hy⟩, h2⟩ := S.pm r hr
    refine ⟨?_, h2⟩
    by_cases ne : r.1 = i
    · obtain ⟨s2, y', os, z⟩ : ∃ s2 y', ∃ _ : ObSh s2 y', env[i]? = some (.tw s2 y') := by
        rw [ne] at hy
        rcases hy with hy | hy
        · rcases q with q | q <;> (rw [q] at hy; cases hy)
        · exact hy
      have w : ∃ s3 y3, ∃ _ : ObSh s3 y3, x = .tw s3 y3 := by
        rcases hx with ⟨g, _⟩ | ⟨g, hx⟩
        · rw [z] at g; cases g
        · rw [z] at g; cases g
          exact ⟨s', d', ho os, hx⟩
      obtain ⟨s3, y3, os3, w⟩ := w
      exact ⟨y, .inr ⟨s3, y3, os3, by rw [ne, List.getElem?_set_self hi, w]⟩⟩
    · exact ⟨y, by unfold IsPw; rw [List.getElem?_set_ne (Ne.symm ne)]; exact hy⟩
  · rcases hF r with g | ⟨_, g, _⟩
    · rw [g] at b; exact S.nw r a b
    · exact S.fresh g
  · have h0 := S.kp r u a b c g9
    refine keep r u (fun z => ?_) h0
    rcases S.mr r i z with g | g
    · rw [g] at a; cases a
    · exact g9 g
  · obtain ⟨g1, g2⟩ := S.lc r hr
    refine ⟨?_, fo _ _ g2⟩
    rw [hH r.1 (fun z => ?_) (by rw [g1]; exact fun z => nomatch z)]
    · exact g1
    · obtain ⟨r', hr', e⟩ := List.mem_map.mp z
      have := (hL r' hr').1
      rw [e, g1] at this
      exact t.nz r' hr' _ _ (Option.some.inj this).symm
  · obtain ⟨g1, g2, g3, g4⟩ := S.hx r hr
    have hm : F r.1 ≠ some (.own i) := by rw [g2]; exact fun z => nomatch z
    exact ⟨keep _ _ hm g1, fn _ g2 (by rw [g1]; exact fun z => nomatch z), g3, fun j y o => g4 j y (ow' o).2⟩
  · by_cases ha : a ∈ L.map (·.1)
    · exact absurd h (hz a ha ob u)
    · rcases hF a with g | ⟨g1, g2, g3⟩
      · rw [g] at e
        have hn : H a ≠ none := fun z => by rw [S.fh.none z] at e; cases e
        rw [hH a ha hn] at h
        exact S.lk a ob u e h
      · obtain ⟨r, hr, rfl⟩ := List.mem_map.mp g3
        rw [(hL' r hr).1] at h
        exact absurd (Option.some.inj h) (t'.nz r hr _ _)
  · by_cases hj : j = i
    · subst hj
      have hq : s1 = s' ∧ y = d' := by
        rcases hx with ⟨_, rfl⟩ | ⟨_, rfl⟩
        · rcases o with o | o
          · rw [hxi] at o; cases o; exact ⟨rfl, rfl⟩
          · rw [hxi] at o; cases o
        · rcases o with o | o
          · rw [hxi] at o; cases o
          · rw [hxi] at o; cases o; exact ⟨rfl, rfl⟩
      obtain ⟨rfl, rfl⟩ := hq
      exact ⟨v, L', hv, t', nd, hL'⟩
    · have o : IsTr env j s1 y := by
        rcases o with o | o
        · rw [List.getElem?_set_ne (Ne.symm hj)] at o; exact .inl o
        · rw [List.getElem?_set_ne (Ne.symm hj)] at o; exact .inr o
      obtain ⟨w, L1, h1, h2, h3, h4⟩ := S.tr j s1 y o
      refine ⟨w, L1, h1, h2.mono sb, h3, fun r hr => ⟨keep _ _ (fun z => ?_) (h4 r hr).1, fo _ _ (h4 r hr).2⟩⟩
      rw [(h4 r hr).2] at z; cases z; exact hj rfl
  · rcases hF a with g | ⟨_, g, _⟩
    · rw [g] at e; exact S.mr a m e
    · exact .inl (S.fresh g)
end
end DL
namespace DL
open PySem L2
/-- a field, by its name -/
def lookF (f : Str) : List (D × D) → Option D
  | [] => none
  | (.str g, d) :: r => if f = g then some d else lookF f r
  | _ :: _ => none
def fldSet (f : Str) (d : D) : List (D × D) → List (D × D)
  | [] => [(.str f, d)]
  | (.str g, x) :: r => if g = f then (.str g, d) :: r else (.str g, x) :: fldSet f d r
  | e :: r => e :: fldSet f d r
/-- a step into a tree -/
inductive Stp where
  | ky (k : Key) | kt (k : List Key) | ix (n : Nat) | fd (f : Str)
  deriving DecidableEq
def nthSh : Sh → Nat → Option Sh
  | .cn _ s _, 0 => some s
  | .cn _ _ r, n + 1 => nthSh r n
  | _, _ => none
def fldSh : Sh → Str → Option Sh
  | .cn g s r, f => if f = g then some s else fldSh r f
  | _, _ => none
def subSh : Sh → Stp → Option Sh
  | .lp r, .ix n => nthSh r n
  | .dr r, .ky (.inr f) => fldSh r f
  | .ob _ r, .fd f => fldSh r f
  | .ls s, .ix _ => some s
  | .dk s, .ky _ => some s
  | .dt s, .kt _ => some s
  | .tp r, .ix n => nthSh r n
  | _, _ => none
def setK (k : Key) (d : D) : List (D × D) → List (D × D)
  | [] => []
  | e :: es => if keyD e.1 = some k then (e.1, d) :: es else e :: setK k d es
def setKT (k : List Key) (d : D) : List (D × D) → List (D × D)
  | [] => []
  | e :: es => if keyT e.1 = some k then (e.1, d) :: es else e :: setKT k d es
def subT : List (D × D) → List Key → Option D
  | (.bool true, .none) :: es, k => findT es k
  | _, _ => none
def subF : List (D × D) → Str → Option D
  | (.bool false, .tuple [.none, .str _]) :: es, f => lookF f es
  | _, _ => none
def subD : D → Stp → Option D
  | .dict es, .fd f => subF es f
  | .list ds, .ix n => ds[n]?
  | .tuple ds, .ix n => ds[n]?
  | .dict es, .ky k => findK es k
  | .dict es, .kt k => subT es k
  | _, _ => none
def setT' (k : List Key) (d : D) : List (D × D) → List (D × D)
  | (.bool true, .none) :: es => (.bool true, .none) :: setKT k d es
  | x => x
def setF' (f : Str) (d : D) : List (D × D) → List (D × D)
  | (.bool false, .tuple [.none, .str c]) :: es => (.bool false, .tuple [.none, .str c]) :: fldSet f d es
  | x => x
def setD : D → Stp → D → D
  | .dict es, .fd f, d => .dict (setF' f d es)
  | .list ds, .ix n, d => .list (ds.set n d)
  | .tuple ds, .ix n, d => .tuple (ds.set n d)
  | .dict es, .ky k, d => .dict (setK k d es)
  | .dict es, .kt k, d => .dict (setT' k d es)
  | x, _, _ => x
def StepV (H : Hp) (v : V) (st : Stp) (w : V) : Prop := match st with
  | .fd f => ∃ p C dx fs, v = .ref p ∧ H p = some (.ins C dx fs) ∧ fs.lookup f = some w
  | .ky k => ∃ p kvs, v = .ref p ∧ H p = some (.dK kvs) ∧ valV kvs k = some w
  | .kt k => ∃ p kvs, v = .ref p ∧ H p = some (.dT kvs) ∧ valV kvs k = some w
  | .ix n => ∃ p vs, v = .ref p ∧ (H p = some (.lst vs) ∨ H p = some (.tup vs)) ∧ vs[n]? = some w
theorem StepV.det {H : Hp} {v w u : V} {st : Stp} (h : StepV H v st w) (g : StepV H v st u) : w = u := by
  cases st with
  | fd f =>
    obtain ⟨p, C, dx, fs, rfl, h1, h2⟩ := h
    obtain ⟨p', C', dx', fs', e, g1, g2⟩ := g
    cases e; rw [h1] at g1; cases g1; rw [h2] at g2; cases g2; rfl
  | ky k =>
    obtain ⟨p, kvs, rfl, h1, h2⟩ := h
    obtain ⟨p', kvs', e, g1, g2⟩ := g
    cases e; rw [h1] at g1; cases g1; rw [h2] at g2; cases g2; rfl
  | kt k =>
    obtain ⟨p, kvs, rfl, h1, h2⟩ := h
    obtain ⟨p', kvs', e, g1, g2⟩ := g
    cases e; rw [h1] at g1; cases g1; rw [h2] at g2; cases g2; rfl
  | ix n =>
    obtain ⟨p, kvs, rfl, h1, h2⟩ := h
    obtain ⟨p', kvs', e, g1, g2⟩ := g
    cases e
    rcases h1 with h1 | h1 <;> rcases g1 with g1 | g1 <;> (rw [h1] at g1; cases g1) <;> (rw [h2] at g2; cases g2; rfl)
section
variable {K : Fg} {F : Hp}
theorem TrA.focus : ∀ {s : Sh} {vs : List V} {ds : List D} {L : Nodes} {n : Nat} {d : D}, TrA K F s vs ds L → ds[n]? = some d →
    ∃ v L1 L2 L3, vs[n]? = some v ∧ L = L1 ++ (L2 ++ L3) ∧ Tr K F s v d L2 ∧ ∀ G d' L2', Sub F G → Tr K G s v d' L2' → TrA K G s vs (ds.set n d') (L1 ++ (L2' ++ L3))
  | _, _, _, _, _, _, .nil, e => by simp at e
  | _, _, _, _, 0, _, .cons (L := L) (M := M) h t, e => by
    simp at e; subst e
    exact ⟨_, [], L, M, rfl, rfl, h, fun G d' L2' z h' => by first | (have := TrA.cons h' (t.mono z); simpa using this) | (have := TrP.cons (f := f0) h' (t.mono z); simpa using this)⟩
  | _, _, _, _, n + 1, d, .cons (L := L) (M := M) h t, e => by
    obtain ⟨v, L1, L2, L3, e1, e2, e3, e4⟩ := TrA.focus (n := n) (d := d) t (by simpa using e)
    subst e2
    exact ⟨v, L ++ L1, L2, L3, by simpa using e1, by simp, e3, fun G d' L2' z h' => by
      have := TrA.cons (h.mono z) (e4 G d' L2' z h')
      simpa using this⟩
theorem TrP.focus : ∀ {r s : Sh} {vs : List V} {ds : List D} {L : Nodes} {n : Nat} {d : D}, TrP K F r vs ds L → ds[n]? = some d → nthSh r n = some s →
    ∃ v L1 L2 L3, vs[n]? = some v ∧ L = L1 ++ (L2 ++ L3) ∧ Tr K F s v d L2 ∧ ∀ G d' L2', Sub F G → Tr K G s v d' L2' → TrP K G r vs (ds.set n d') (L1 ++ (L2' ++ L3))
  | _, _, _, _, _, _, _, .nil, e, _ => by simp at e
  | _, _, _, _, _, 0, _, .cons (f := f0) (L := L) (M := M) h t, e, f => by
    simp at e; subst e
    cases f
    exact ⟨_, [], L, M, rfl, rfl, h, fun G d' L2' z h' => by first | (have := TrA.cons h' (t.mono z); simpa using this) | (have := TrP.cons (f := f0) h' (t.mono z); simpa using this)⟩
  | _, s, _, _, _, n + 1, d, .cons (f := f0) (L := L) (M := M) h t, e, f => by
    obtain ⟨v, L1, L2, L3, e1, e2, e3, e4⟩ := TrP.focus (s := s) (n := n) (d := d) t (by simpa using e) f
    subst e2
    exact ⟨v, L ++ L1, L2, L3, by simpa using e1, by simp, e3, fun G d' L2' z h' => by
      have := TrP.cons (f := f0) (h.mono z) (e4 G d' L2' z h')
      simpa using this⟩
theorem TrO.focus {f : Str} : ∀ {r s : Sh} {fs : List (Str × V)} {es : List (D × D)} {L : Nodes} {d : D}, TrO K F r fs es L → lookF f es = some d → fldSh r f = some s →
    ∃ v L1 L2 L3, fs.lookup f = some v ∧ L = L1 ++ (L2 ++ L3) ∧ Tr K F s v d L2 ∧ ∀ G d' L2', Sub F G → Tr K G s v d' L2' → TrO K G r fs (fldSet f d' es) (L1 ++ (L2' ++ L3))
  | _, _, _, _, _, _, .nil, e, _ => by cases e
  | _, s, _, _, _, d, .cons (f := g) (L := L) (M := M) (v := v) (vs := vs) (d := d0) (ds := ds) h t, e, q => by
    unfold lookF at e
    unfold fldSh at q
    by_cases hk : f = g
    · subst hk
      rw [if_pos rfl] at e q
      cases e; cases q
      exact ⟨v, [], L, M, by rw [List.lookup_cons]; simp, rfl, h, fun G d' L2' z h' => by
        have := TrO.cons (f := f) h' (t.mono z)
        simpa [fldSet] using this⟩
    · rw [if_neg hk] at e q
      obtain ⟨w, L1, L2, L3, e1, e2, e3, e4⟩ := TrO.focus (s := s) (d := d) t e q
      subst e2
      refine ⟨w, L ++ L1, L2, L3, ?_, by simp, e3, fun G d' L2' z h' => ?_⟩
      · rw [List.lookup_cons, beq_eq_false_iff_ne.mpr hk]; exact e1
      · have := TrO.cons (f := g) (h.mono z) (e4 G d' L2' z h')
        simpa [fldSet, Ne.symm hk] using this
theorem TrK.focus {k : Key} : ∀ {s : Sh} {vs : List (Key × V)} {es : List (D × D)} {L : Nodes} {d : D}, TrK K F s vs es L → findK es k = some d →
    ∃ v L1 L2 L3, valV vs k = some v ∧ L = L1 ++ (L2 ++ L3) ∧ Tr K F s v d L2 ∧ ∀ G d' L2', Sub F G → Tr K G s v d' L2' → TrK K G s vs (setK k d' es) (L1 ++ (L2' ++ L3))
  | _, _, _, _, _, .nil, e => by simp [findK] at e
  | _, _, _, _, d, .cons (k := k') (v := v) (L := L) (M := M) (vs := vs) (d := d0) (ds := ds) h t, e => by
    by_cases hk : k' = k
    · subst hk
      have e : some d0 = some d := by simpa [findK, keyD_kD] using e
      cases e
      exact ⟨v, [], L, M, by simp [valV], rfl, h, fun G d' L2' z h' => by simpa [setK, keyD_kD] using TrK.cons h' (t.mono z)⟩
    · have e' : findK ds k = some d := by simpa [findK, keyD_kD, hk] using e
      obtain ⟨w, L1, L2, L3, e1, e2, e3, e4⟩ := TrK.focus t e'
      subst e2
      refine ⟨w, L ++ L1, L2, L3, by simpa [valV, hk] using e1, by simp, e3, fun G d' L2' z h' => ?_⟩
      have := TrK.cons (k := k') (h.mono z) (e4 G d' L2' z h')
      simpa [setK, keyD_kD, hk] using this
theorem keyT_tup (ks : List Key) : keyT (.tuple (ks.map kD)) = some ks := keysD_kD ks
theorem TrT.focus {k : List Key} : ∀ {s : Sh} {vs : List (List Key × V)} {es : List (D × D)} {L : Nodes} {d : D}, TrT K F s vs es L → findT es k = some d →
    ∃ v L1 L2 L3, valV vs k = some v ∧ L = L1 ++ (L2 ++ L3) ∧ Tr K F s v d L2 ∧ ∀ G d' L2', Sub F G → Tr K G s v d' L2' → TrT K G s vs (setKT k d' es) (L1 ++ (L2' ++ L3))
  | _, _, _, _, _, .nil, e => by simp [findT] at e
  | _, _, _, _, d, .cons (k := k') (v := v) (L := L) (M := M) (vs := vs) (d := d0) (ds := ds) h t, e => by
    by_cases hk : k' = k
    · subst hk
      have e : some d0 = some d := by simpa [findT, keyT_tup] using e
      cases e
      exact ⟨v, [], L, M, by simp [valV], rfl, h, fun G d' L2' z h' => by simpa [setKT, keyT_tup] using TrT.cons h' (t.mono z)⟩
    · have e' : findT ds k = some d := by simpa [findT, keyT_tup, hk] using e
      obtain ⟨w, L1, L2, L3, e1, e2, e3, e4⟩ := TrT.focus t e'
      subst e2
      refine ⟨w, L ++ L1, L2, L3, by simpa [valV, hk] using e1, by simp, e3, fun G d' L2' z h' => ?_⟩
      have := TrT.cons (k := k') (h.mono z) (e4 G d' L2' z h')
      simpa [setKT, keyT_tup, hk] using this
theorem TrR.focus {f : Str} : ∀ {r s : Sh} {vs : List (Key × V)} {es : List (D × D)} {L : Nodes} {d : D}, TrR K F r vs es L → findK es (.inr f) = some d → fldSh r f = some s →
    ∃ v L1 L2 L3, valV vs (.inr f) = some v ∧ L = L1 ++ (L2 ++ L3) ∧ Tr K F s v d L2 ∧ ∀ G d' L2', Sub F G → Tr K G s v d' L2' → TrR K G r vs (setK (.inr f) d' es) (L1 ++ (L2' ++ L3))
  | _, _, _, _, _, _, .nil, e, _ => by simp [findK] at e
  | _, s, _, _, _, d, .cons (f := g) (L := L) (M := M) (v := v) (vs := vs) (d := d0) (ds := ds) h t, e, q => by
    unfold fldSh at q
    by_cases hk : f = g
    · subst hk
      rw [if_pos rfl] at q
      have e : some d0 = some d := by simpa [findK, keyD] using e
      cases e; cases q
      exact ⟨v, [], L, M, by simp [valV], rfl, h, fun G d' L2' z h' => by
        have := TrR.cons (f := f) h' (t.mono z)
        simpa [setK, keyD] using this⟩
    · rw [if_neg hk] at q
      have hk' : g ≠ f := Ne.symm hk
      have e' : findK ds (.inr f) = some d := by simpa [findK, keyD, hk'] using e
      obtain ⟨w, L1, L2, L3, e1, e2, e3, e4⟩ := TrR.focus (s := s) (d := d) t e' q
      subst e2
      refine ⟨w, L ++ L1, L2, L3, by simpa [valV, hk'] using e1, by simp, e3, fun G d' L2' z h' => ?_⟩
      have := TrR.cons (f := g) (h.mono z) (e4 G d' L2' z h')
      simpa [setK, keyD, hk'] using this
theorem TrR.plain {s : Sh} {vs : List (Key × V)} {es : List (D × D)} {L : Nodes} (h : TrR K F s vs es L) : ∀ {b es'}, es ≠ (.bool b, .none) :: es' := by
  intro b es' z
  cases h with
  | nil => cases z
  | cons _ _ =>
    injection z with z _
    injection z with z _
    cases z
theorem TrK.plain {s : Sh} {vs : List (Key × V)} {es : List (D × D)} {L : Nodes} (h : TrK K F s vs es L) : ∀ {b es'}, es ≠ (.bool b, .none) :: es' := by
  intro b es' z
  cases h with
  | nil => cases z
  | @cons _ k _ _ _ _ _ _ _ _ =>
    injection z with z _
    injection z with z _
    cases k <;> cases z
/-- one step into a tree: what stands there, and the tree with something else there -/
theorem Tr.focus {H : Hp} {s s1 : Sh} {v : V} {d d1 : D} {L : Nodes} {st : Stp} (h : Tr K F s v d L) (hH : ∀ q ∈ L, H q.1 = some q.2) (hs : subSh s st = some s1) (hd : subD d st = some d1) :
    ∃ v1 L1 L2 L3, StepV H v st v1 ∧ L = L1 ++ (L2 ++ L3) ∧ Tr K F s1 v1 d1 L2 ∧ ∀ G d' L2', Sub F G → Tr K G s1 v1 d' L2' → Tr K G s v (setD d st d') (L1 ++ (L2' ++ L3)) := by
  cases h with
  | fz _ => cases st <;> cases hs
  | @ls s p vs ds L t =>
    cases st with
    | ix n =>
      cases hs
      obtain ⟨v1, L1, L2, L3, e1, e2, e3, e4⟩ := t.focus hd
      subst e2
      exact ⟨v1, _ :: L1, L2, L3, ⟨p, vs, rfl, .inl (hH _ List.mem_cons_self), e1⟩, rfl, e3, fun G d' L2' z h' => .ls (e4 G d' L2' z h')⟩
    | _ => cases hs
  | @tp r p vs ds L t =>
    cases st with
    | ix n =>
      obtain ⟨v1, L1, L2, L3, e1, e2, e3, e4⟩ := t.focus hd hs
      subst e2
      exact ⟨v1, _ :: L1, L2, L3, ⟨p, vs, rfl, .inr (hH _ List.mem_cons_self), e1⟩, rfl, e3, fun G d' L2' z h' => .tp (e4 G d' L2' z h')⟩
    | _ => cases hs
  | @dk s p kvs es L t =>
    cases st with
    | ky k =>
      cases hs
      obtain ⟨v1, L1, L2, L3, e1, e2, e3, e4⟩ := t.focus (show findK es k = some d1 from hd)
      subst e2
      refine ⟨v1, _ :: L1, L2, L3, ⟨p, kvs, rfl, hH _ List.mem_cons_self, e1⟩, rfl, e3, fun G d' L2' z h' => ?_⟩
      exact .dk (e4 G d' L2' z h')
    | _ => cases hs
  | @dt s p kvs es L t =>
    cases st with
    | kt k =>
      cases hs
      obtain ⟨v1, L1, L2, L3, e1, e2, e3, e4⟩ := t.focus (show findT es k = some d1 from hd)
      subst e2
      exact ⟨v1, _ :: L1, L2, L3, ⟨p, kvs, rfl, hH _ List.mem_cons_self, e1⟩, rfl, e3, fun G d' L2' z h' => .dt (e4 G d' L2' z h')⟩
    | _ => cases hs
  | @lp r p vs ds L t =>
    cases st with
    | ix n =>
      obtain ⟨v1, L1, L2, L3, e1, e2, e3, e4⟩ := t.focus hd hs
      subst e2
      exact ⟨v1, _ :: L1, L2, L3, ⟨p, vs, rfl, .inl (hH _ List.mem_cons_self), e1⟩, rfl, e3, fun G d' L2' z h' => .lp (e4 G d' L2' z h')⟩
    | _ => cases hs
  | @dr r p kvs es L t =>
    cases st with
    | ky k =>
      cases k with
      | inl i => cases hs
      | inr f =>
        obtain ⟨v1, L1, L2, L3, e1, e2, e3, e4⟩ := t.focus (show findK es (.inr f) = some d1 from hd) hs
        subst e2
        exact ⟨v1, _ :: L1, L2, L3, ⟨p, kvs, rfl, hH _ List.mem_cons_self, e1⟩, rfl, e3, fun G d' L2' z h' => .dr (e4 G d' L2' z h')⟩
    | _ => cases hs
  | @ob c r p C dx fs es L m t =>
    cases st with
    | fd f =>
      obtain ⟨v1, L1, L2, L3, e1, e2, e3, e4⟩ := t.focus (show lookF f es = some d1 from hd) (show fldSh r f = some s1 from hs)
      subst e2
      exact ⟨v1, _ :: L1, L2, L3, ⟨p, C, dx, fs, rfl, hH _ List.mem_cons_self, e1⟩, rfl, e3, fun G d' L2' z h' => .ob m (e4 G d' L2' z h')⟩
    | _ => cases hs
end
def subShP : Sh → List Stp → Option Sh
  | s, [] => some s
  | s, st :: π => (subSh s st).bind fun s1 => subShP s1 π
def subDP : D → List Stp → Option D
  | d, [] => some d
  | d, st :: π => (subD d st).bind fun d1 => subDP d1 π
def setDP : D → List Stp → D → D
  | _, [], x => x
  | d, st :: π, x => match subD d st with
    | some d1 => setD d st (setDP d1 π x)
    | none => d
def WalkV (H : Hp) : V → List Stp → V → Prop
  | v, [], w => v = w
  | v, st :: π, w => ∃ u, StepV H v st u ∧ WalkV H u π w
theorem WalkV.det {H : Hp} : ∀ {π : List Stp} {v w u : V}, WalkV H v π w → WalkV H v π u → w = u
  | [], _, _, _, h, g => h.symm.trans g
  | _ :: _, _, _, _, ⟨_, h1, h2⟩, ⟨_, g1, g2⟩ => by
    have := h1.det g1
    subst this
    exact WalkV.det h2 g2
theorem WalkV.snoc {H : Hp} {st : Stp} : ∀ {π : List Stp} {v w u : V}, WalkV H v π w → StepV H w st u → WalkV H v (π ++ [st]) u
  | [], _, _, _, h, g => by cases h; exact ⟨_, g, rfl⟩
  | _ :: _, _, _, _, ⟨x, h1, h2⟩, g => ⟨x, h1, h2.snoc g⟩
theorem Tr.focusP {K : Fg} {F H : Hp} : ∀ {π : List Stp} {s s1 : Sh} {v : V} {d d1 : D} {L : Nodes}, Tr K F s v d L → (∀ q ∈ L, H q.1 = some q.2) → subShP s π = some s1 → subDP d π = some d1 →
    ∃ v1 L1 L2 L3, WalkV H v π v1 ∧ L = L1 ++ (L2 ++ L3) ∧ Tr K F s1 v1 d1 L2 ∧ ∀ G d' L2', Sub F G → Tr K G s1 v1 d' L2' → Tr K G s v (setDP d π d') (L1 ++ (L2' ++ L3))
  | [], _, _, v, _, _, L, h, _, hs, hd => by
    cases hs; cases hd
    exact ⟨v, [], L, [], rfl, by simp, h, fun G d' L2' z h' => by simpa [setDP] using h'⟩
  | st :: π, s, s1, v, d, d1, L, h, hH, hs, hd => by
    obtain ⟨s2, a1, a2⟩ := bd hs
    obtain ⟨d2, b1, b2⟩ := bd hd
    obtain ⟨v2, L1, L2, L3, e1, rfl, e3, e4⟩ := h.focus hH a1 b1
    obtain ⟨v1, M1, M2, M3, f1, rfl, f3, f4⟩ := Tr.focusP e3 (fun q hq => hH q (List.mem_append_right _ (List.mem_append_left _ hq))) a2 b2
    refine ⟨v1, L1 ++ M1, M2, M3 ++ L3, ⟨v2, e1, f1⟩, by simp, f3, fun G d' L2' z h' => ?_⟩
    have := e4 G _ _ z (f4 G d' L2' z h')
    simp only [setDP, b1]
    simpa using this
end DL
namespace DL
open PySem L2
abbrev Qf := En → Option D
/-- a value of the others; nothing at all is changed -/
def tQ (K : Fg) (f : Qf) : TE := fun σ H Q => ∃ B F env d, Sl K B F H σ env ∧ f env = some d ∧ ∀ v, Dt K F v d → Q v H
def qVar (i : Nat) : Qf := fun env => match env[i]? with
  | some (.fz d) => some d
  | some (.tw .fz d) => some d
  | _ => none
def qC (d : D) : Qf := fun _ => some d
def PathV (H : Hp) (σ : L2.St) (i : Nat) (π : List Stp) (v : V) : Prop := ∃ v0, σ[i]? = some (some v0) ∧ WalkV H v0 π v
abbrev Plf := En → Option (Nat × List Stp)
/-- a place in a name's own tree -/
def tPl (K : Fg) (pl : Plf) : TE := fun σ H Q => ∃ B F env i π, Sl K B F H σ env ∧ pl env = some (i, π) ∧ ∀ v, PathV H σ i π v → Q v H
def trAt (env : En) (i : Nat) : Option (Sh × D) := match env[i]? with
  | some (.tr s d) => some (s, d)
  | some (.tw s d) => some (s, d)
  | _ => none
theorem trAt_is {env : En} {i : Nat} {s : Sh} {d : D} (h : trAt env i = some (s, d)) : IsTr env i s d := by
  unfold trAt at h
  split at h
  · rename_i q; cases h; exact .inl q
  · rename_i q; cases h; exact .inr q
  · cases h
def setTr (i : Nat) (s : Sh) (d : D) (env : En) : Option En := match env[i]? with
  | some (.tr _ _) => some (env.set i (.tr s d))
  | some (.tw _ _) => some (env.set i (.tw s d))
  | _ => none
def stepOf : D → D → Option Stp
  | .list ds, .int n => if 0 ≤ n ∧ n < ds.length then some (.ix n.toNat) else none
  | .tuple ds, .int n => if 0 ≤ n ∧ n < ds.length then some (.ix n.toNat) else none
  | .dict es, k => match keyD k with
    | some k => if (findK es k).isSome then some (.ky k) else none
    | none => match keyT k with
      | some k => if (subT es k).isSome then some (.kt k) else none
      | none => none
  | _, _ => none
def plVar (i : Nat) : Plf := fun env => (trAt env i).bind fun _ => some (i, [])
def plSub (pl : Plf) (f : Qf) : Plf := fun env => (pl env).bind fun r => (f env).bind fun k => (trAt env r.1).bind fun t => (subDP t.2 r.2).bind fun c => (subShP t.1 r.2).bind fun s => (stepOf c k).bind fun st => (subSh s st).bind fun _ => some (r.1, r.2 ++ [st])
section
variable {K : Fg} {B : Bs} {F H : Hp} {σ : L2.St} {env : En}
/-- what stands at a place -/
theorem Sl.atP (S : Sl K B F H σ env) {i : Nat} {s s1 : Sh} {d d1 : D} {π : List Stp} (q : IsTr env i s d) (hs : subShP s π = some s1) (hd : subDP d π = some d1) :
    ∃ v0 v1 L1 L2 L3, σ[i]? = some (some v0) ∧ WalkV H v0 π v1 ∧ Tr K F s v0 d (L1 ++ (L2 ++ L3)) ∧ Ndp (L1 ++ (L2 ++ L3)) ∧ (∀ q ∈ L1 ++ (L2 ++ L3), H q.1 = some q.2 ∧ F q.1 = some (.own i)) ∧ Tr K F s1 v1 d1 L2 ∧
      ∀ G d' L2', Sub F G → Tr K G s1 v1 d' L2' → Tr K G s v0 (setDP d π d') (L1 ++ (L2' ++ L3)) := by
  obtain ⟨v0, L, h1, h2, h3, h4⟩ := S.tr i s d q
  obtain ⟨v1, L1, L2, L3, e1, rfl, e3, e4⟩ := h2.focusP (fun q hq => (h4 q hq).1) hs hd
  exact ⟨v0, v1, L1, L2, L3, h1, e1, h2, h3, h4, e3, e4⟩
/-- the root of what stands at a place is written anew; new nodes may come -/
theorem Sl.putP (S : Sl K B F H σ env) {i : Nat} {s s1 : Sh} {d d1' : D} {π : List Stp} {v0 : V} {p : Addr} {o o' : HO} {L1 M L3 N : Nodes} {H' : Hp} {env' : En} (q : IsTr env i s d) (hv : σ[i]? = some (some v0))
    (t : Tr K F s v0 d (L1 ++ (((p, o) :: M) ++ L3))) (nd : Ndp (L1 ++ (((p, o) :: M) ++ L3))) (hL : ∀ q ∈ L1 ++ (((p, o) :: M) ++ L3), H q.1 = some q.2 ∧ F q.1 = some (.own i))
    (re : ∀ G d' L2', Sub F G → Tr K G s1 (.ref p) d' L2' → Tr K G s v0 (setDP d π d') (L1 ++ (L2' ++ L3)))
    (t1 : ∀ G, Sub F G → Tr K G s1 (.ref p) d1' ((p, o') :: (M ++ N))) (he : setTr i s (setDP d π d1') env = some env') (ndN : Ndp N) (hN : ∀ n ∈ N, H n.1 = none ∧ H' n.1 = some n.2)
    (hp : H' p = some o') (hH : ∀ a u, a ≠ p → H a = some u → H' a = some u) (hG : ∀ a u, H' a = some u → a ≠ p → a ∉ N.map (·.1) → H a = some u)
    (ho' : ∀ ks : List Key, o' ≠ .tup (ks.map kV) := by intro ks h; cases h) (hNt : ∀ n ∈ N, ∀ ks : List Key, n.2 ≠ .tup (ks.map kV) := by simp) : ∃ F', Sub F F' ∧ Sl K B F' H' σ env' := by
  obtain ⟨F', hF'⟩ : ∃ F' : Hp, F' = fun a => if a ∈ N.map (·.1) then some (.own i) else F a := ⟨_, rfl⟩
  have fin : ∀ a, a ∈ N.map (·.1) → F' a = some (.own i) ∧ F a = none ∧ H a = none := fun a ha => by
    obtain ⟨r, hr, rfl⟩ := List.mem_map.mp ha
    exact ⟨by rw [hF']; exact if_pos ha, S.fh.none (hN r hr).1, (hN r hr).1⟩
  have fout : ∀ a, a ∉ N.map (·.1) → F' a = F a := fun a ha => by rw [hF']; exact if_neg ha
  have fo : ∀ a u, F a = some u → F' a = some u := fun a u e => by rw [fout a (fun z => by rw [(fin a z).2.1] at e; cases e)]; exact e
  have sb : Sub F F' := fun a u e _ => fo a u e
  have t' := re F' d1' _ sb (t1 F' sb)
  have hpL : (p, o) ∈ L1 ++ (((p, o) :: M) ++ L3) := List.mem_append_right _ (List.mem_append_left _ List.mem_cons_self)
  have hpn : H p ≠ none := by rw [(hL _ hpL).1]; exact fun z => nomatch z
  have sub' : ∀ r, r ∈ L1 ++ (((p, o') :: (M ++ N)) ++ L3) → r = (p, o') ∨ r ∈ N ∨ (r ∈ L1 ++ (((p, o) :: M) ++ L3)) := fun r hr => by
    simp only [List.mem_append, List.mem_cons] at hr ⊢
    rcases hr with hr | (hr | hr | hr) | hr
    · exact .inr (.inr (.inl hr))
    · exact .inl hr
    · exact .inr (.inr (.inr (.inl (.inr hr))))
    · exact .inr (.inl hr)
    · exact .inr (.inr (.inr (.inr hr)))
  have nd0 : ((L1.map (·.1)) ++ ((p :: M.map (·.1)) ++ L3.map (·.1))).Nodup := by
    have := nd; unfold Ndp at this; simpa using this
  have ndN' : (N.map (·.1)).Nodup := ndN
  have nN : ∀ a, a ∈ N.map (·.1) → a ∉ (L1.map (·.1)) ++ ((p :: M.map (·.1)) ++ L3.map (·.1)) := fun a ha hb => by
    have hb : a ∈ (L1 ++ (((p, o) :: M) ++ L3)).map (·.1) := by simpa using hb
    obtain ⟨r, hr, rfl⟩ := List.mem_map.mp hb
    have := (hL r hr).1
    rw [(fin _ ha).2.2] at this; cases this
  have nd' : Ndp (L1 ++ (((p, o') :: (M ++ N)) ++ L3)) := by
    unfold Ndp
    have pm : ((L1 ++ (((p, o') :: (M ++ N)) ++ L3)).map (·.1)).Perm (N.map (·.1) ++ ((L1.map (·.1)) ++ ((p :: M.map (·.1)) ++ L3.map (·.1)))) := by
      simp only [List.map_append, List.map_cons, List.cons_append, List.append_assoc]
      refine List.Perm.trans ?_ (List.perm_append_comm_assoc _ _ _)
      refine List.Perm.append_left _ ?_
      refine List.Perm.trans ?_ (List.perm_middle.symm)
      refine List.Perm.cons _ ?_
      exact List.perm_append_comm_assoc _ _ _
    refine pm.nodup_iff.mpr (List.nodup_append.mpr ⟨ndN', nd0, fun a ha b hb e => ?_⟩)
    subst e
    exact nN a ha hb
  -- a node is where it was
  have once : ∀ r ∈ L1 ++ (((p, o) :: M) ++ L3), r.1 = p → r = (p, o) := fun r hr e => by
    have h1 := (hL r hr).1
    have h2 := (hL _ hpL).1
    rw [e, h2] at h1
    exact Prod.ext e (Option.some.inj h1).symm
  have hL' : ∀ r ∈ L1 ++ (((p, o') :: (M ++ N)) ++ L3), H' r.1 = some r.2 ∧ F' r.1 = some (.own i) := fun r hr => by
    rcases sub' r hr with rfl | h | h
    · exact ⟨hp, fo _ _ (hL _ hpL).2⟩
    · exact ⟨(hN r h).2, (fin _ (List.mem_map.mpr ⟨r, h, rfl⟩)).1⟩
    · refine ⟨?_, fo _ _ (hL r h).2⟩
      by_cases e : r.1 = p
      · -- two nodes at p: then it is the new one
        have : r = (p, o') := by
          have hr' : ((L1 ++ (((p, o') :: (M ++ N)) ++ L3)).map (·.1)).Nodup := nd'
          have m1 : (p, o') ∈ L1 ++ (((p, o') :: (M ++ N)) ++ L3) := List.mem_append_right _ (List.mem_append_left _ List.mem_cons_self)
          exact nodup_fst hr' hr m1 e
        rw [this]; exact hp
      · exact hH _ _ e (hL r h).1
  have hx : ∃ x, ((env[i]? = some (.tr s d) ∧ x = .tr s (setDP d π d1')) ∨ (env[i]? = some (.tw s d) ∧ x = .tw s (setDP d π d1'))) ∧ env' = env.set i x := by
    unfold setTr at he
    rcases q with q | q
    · rw [q] at he; cases he; exact ⟨_, .inl ⟨q, rfl⟩, rfl⟩
    · rw [q] at he; cases he; exact ⟨_, .inr ⟨q, rfl⟩, rfl⟩
  obtain ⟨x, hx, rfl⟩ := hx
  refine ⟨F', sb, S.chgT q hx hv t hL t' nd' hL' (fun a => ?_) (fun a ha hn => ?_) (fun a hn => ?_) (fun a ha ob u => ?_) (fun a ks e => ?_) fun os => ?_⟩
  rotate_right
  · rcases os with os | ⟨rfl, _⟩
    · exact .inl os
    · generalize hX : L1 ++ (((p, o) :: M) ++ L3) = X at t
      cases t
      exact absurd hX (by simp)
  rotate_right
  · by_cases z : a = p
    · subst z; rw [hp] at e; exact absurd (Option.some.inj e) (ho' ks)
    · by_cases z2 : a ∈ N.map (·.1)
      · obtain ⟨r, hr, rfl⟩ := List.mem_map.mp z2
        rw [(hN r hr).2] at e; exact absurd (Option.some.inj e) (hNt r hr ks)
      · exact hG a _ e z z2
  · by_cases z : a ∈ N.map (·.1)
    · refine .inr ⟨(fin a z).2.1, (fin a z).2.2, ?_⟩
      obtain ⟨r, hr, rfl⟩ := List.mem_map.mp z
      refine List.mem_map.mpr ⟨r, ?_, rfl⟩
      exact List.mem_append_right _ (List.mem_append_left _ (List.mem_cons_of_mem _ (List.mem_append_right _ hr)))
    · exact .inl (fout a z)
  · cases e : H a with
    | none => exact absurd e hn
    | some u =>
      refine hH a u (fun z => ha ?_) e
      subst z
      exact List.mem_map.mpr ⟨_, hpL, rfl⟩
  · cases e : H a with
    | none => exact absurd e hn
    | some u =>
      by_cases z : a = p
      · subst z; rw [hp]; exact fun z => nomatch z
      · rw [hH a u z e]; exact fun z => nomatch z
  · obtain ⟨r, hr, rfl⟩ := List.mem_map.mp ha
    by_cases z : r.1 = p
    · rw [z, hp]
      intro w
      exact t'.nz (p, o') (List.mem_append_right _ (List.mem_append_left _ List.mem_cons_self)) ob u (Option.some.inj w)
    · rw [hH _ _ z (hL r hr).1]
      intro w
      exact t.nz r hr ob u (Option.some.inj w)
where
  nodup_fst : ∀ {L : Nodes} {a b : Addr × HO}, (L.map (·.1)).Nodup → a ∈ L → b ∈ L → a.1 = b.1 → a = b
    | [], _, _, _, h, _, _ => nomatch h
    | x :: L, a, b, h, ha, hb, e => by
      obtain ⟨h1, h2⟩ := List.nodup_cons.mp h
      rcases List.mem_cons.mp ha with ea | ha'
      · rcases List.mem_cons.mp hb with eb | hb'
        · rw [ea, eb]
        · rw [ea] at e
          exact absurd (List.mem_map.mpr ⟨b, hb', e.symm⟩) h1
      · rcases List.mem_cons.mp hb with eb | hb'
        · rw [eb] at e
          exact absurd (List.mem_map.mpr ⟨a, ha', e⟩) h1
        · exact nodup_fst h2 ha' hb' e
end
end DL
namespace DL
open PySem L2
section
variable {X : Cx} {Tb : TbT} {o e b : Expr} {x : Str} {pos apos cpos : Pos}
theorem dq_c {v : V} {d : D} (h : PE X e (tC v)) (hd : ∀ F, Dt (X.kg Tb) F v d) : PE X e (tQ (X.kg Tb) (qC d)) := PEi h fun σ H Q ⟨B, F, env, d', S, ef, k⟩ => by
  cases ef
  exact k v (hd F)
theorem dq_int {i : Int} {j : Nat} : PE X (.Constant (.int i) j pos) (tQ (X.kg Tb) (qC (.int i))) := dq_c pe_int fun _ => .int i
theorem dq_none {j : Nat} : PE X (.Constant .none j pos) (tQ (X.kg Tb) (qC .none)) := dq_c pe_non fun _ => .non
theorem dpl_var (i : Nat) (hN : X.N[i]? = some x := by rfl) (hv : Vis X.env.scope x := by first | exact Or.inl rfl | exact Or.inr (Or.inl rfl) | exact Or.inr (Or.inr rfl)) (hd : (x == ("__debug__" : Str)) = false := by decide)
    (hcd : (x == ("__classdict__" : Str)) = false := by decide) : PE X (.Name x pos) (tPl (X.kg Tb) (plVar i)) := PEi (pe_var hN hv hd hcd) fun σ H Q ⟨B, F, env, j, π, S, ef, k⟩ => by
  obtain ⟨⟨s, d⟩, q, ef⟩ := bd ef
  cases ef
  obtain ⟨v, L, h1, _⟩ := S.tr i s d (trAt_is q)
  exact ⟨v, h1, k v ⟨v, h1, rfl⟩⟩
theorem atI_of {α : Type} {xs : List α} {n : Int} {v : α} (h : 0 ≤ n ∧ n < xs.length) (e : xs[n.toNat]? = some v) : atI xs n = some v := by
  have e' : ixN xs.length n = some n.toNat := by
    unfold ixN
    rw [if_pos h.1, if_pos (by omega)]
  simp [atI, e', e]
theorem dpl_sub {pl : Plf} {f : Qf} (hu : X.A.units + 1 < cLine) (ho : PE X o (tPl (X.kg Tb) pl)) (hb : PE X b (tQ (X.kg Tb) f)) (hs : PlainIx b) : PE X (.Subscript o b pos) (tPl (X.kg Tb) (plSub pl f)) :=
  PEi (pe_ix (IxR.or ix_seq (ix_dict hu)) ho hb hs) fun σ H Q ⟨B, F, env, i, π, S, ef, k⟩ => by
    obtain ⟨⟨j, π0⟩, q1, ef⟩ := bd ef
    obtain ⟨kd, q2, ef⟩ := bd ef
    obtain ⟨⟨s, d⟩, q3, ef⟩ := bd ef
    obtain ⟨c, q4, ef⟩ := bd ef
    obtain ⟨s1, q5, ef⟩ := bd ef
    obtain ⟨st, q6, ef⟩ := bd ef
    obtain ⟨s2, q7, ef⟩ := bd ef
    cases ef
    dsimp only at q3 q4 q5
    refine ⟨B, F, env, j, π0, S, q1, fun v hv => ⟨B, F, env, kd, S, q2, fun w hw => ?_⟩⟩
    obtain ⟨v0, v1, L1, L2, L3, h1, h2, h3, h4, h5, h6, h7⟩ := S.atP (trAt_is q3) q5 q4
    obtain ⟨v0', g1, g2⟩ := hv
    rw [h1] at g1; cases g1
    have := g2.det h2
    subst this
    have hH : ∀ q ∈ L2, H q.1 = some q.2 := fun q hq => (h5 q (List.mem_append_right _ (List.mem_append_left _ hq))).1
    have dc : ∃ c1, subD c st = some c1 := by
      unfold stepOf at q6
      split at q6
      · split at q6
        · rename_i hn; cases q6
          exact ⟨_, List.getElem?_eq_getElem (by omega)⟩
        · cases q6
      · split at q6
        · rename_i hn; cases q6
          exact ⟨_, List.getElem?_eq_getElem (by omega)⟩
        · cases q6
      · split at q6
        · split at q6
          · rename_i hk; cases q6
            exact Option.isSome_iff_exists.mp hk
          · cases q6
        · split at q6
          · split at q6
            · rename_i hk; cases q6
              exact Option.isSome_iff_exists.mp hk
            · cases q6
          · cases q6
      · cases q6
    obtain ⟨c1, hc1⟩ := dc
    obtain ⟨v2, _, _, _, st1, _, _, _⟩ := h6.focus hH q7 hc1
    have fin := k v2 ⟨v0, h1, h2.snoc st1⟩
    unfold stepOf at q6
    split at q6
    · split at q6
      · rename_i hn; cases q6
        have : w = _ := hw.int_inv
        subst this
        obtain ⟨p, vs, rfl, hp, hx⟩ := st1
        rcases hp with hp | hp
        · refine .inl (.inl ⟨p, vs, _, v2, rfl, rfl, SqL.of hp, atI_of ⟨hn.1, ?_⟩ hx, fin⟩)
          obtain ⟨hl, _⟩ := List.getElem?_eq_some_iff.mp hx
          omega
        · refine .inl (.inr (.inl ⟨p, vs, _, v2, rfl, rfl, SqT.of hp, atI_of ⟨hn.1, ?_⟩ hx, fin⟩))
          obtain ⟨hl, _⟩ := List.getElem?_eq_some_iff.mp hx
          omega
      · cases q6
    · split at q6
      · rename_i hn; cases q6
        have : w = _ := hw.int_inv
        subst this
        obtain ⟨p, vs, rfl, hp, hx⟩ := st1
        rcases hp with hp | hp
        · refine .inl (.inl ⟨p, vs, _, v2, rfl, rfl, SqL.of hp, atI_of ⟨hn.1, ?_⟩ hx, fin⟩)
          obtain ⟨hl, _⟩ := List.getElem?_eq_some_iff.mp hx
          omega
        · refine .inl (.inr (.inl ⟨p, vs, _, v2, rfl, rfl, SqT.of hp, atI_of ⟨hn.1, ?_⟩ hx, fin⟩))
          obtain ⟨hl, _⟩ := List.getElem?_eq_some_iff.mp hx
          omega
      · cases q6
    · split at q6
      · rename_i ky hky
        split at q6
        · cases q6
          obtain ⟨p, kvs, rfl, hp, hx⟩ := st1
          have hk' := keyD_eq hky
          subst hk'
          have := hw.keyV
          subst this
          refine .inr ⟨p, v2, rfl, ?_, fin⟩
          rw [← hx]
          exact DGet.k hp
        · cases q6
      · split at q6
        · rename_i ks hks
          split at q6
          · cases q6
            obtain ⟨p, kvs, rfl, hp, hx⟩ := st1
            obtain ⟨b, hb1, hb2⟩ : ∃ b, w = .ref b ∧ H b = some (.tup (ks.map kV)) := by
              unfold keyT at hks
              split at hks
              · have hk' := keysD_eq hks
                subst hk'
                cases hw with
                | tup hf ht => exact ⟨_, rfl, by rw [← ht.keysV]; exact S.fh.tup hf⟩
              · cases hks
            subst hb1
            refine .inr ⟨p, v2, rfl, ?_, fin⟩
            rw [← hx]
            exact DGet.t hp hb2
          · cases q6
        · cases q6
    · cases q6
/-- a list at a place takes one more -/
def eAppP (pl : Plf) (f : Qf) : Df := fun env => (pl env).bind fun r => (f env).bind fun x => (trAt env r.1).bind fun t => (subDP t.2 r.2).bind fun c => if subShP t.1 r.2 = some (.ls .fz) then (match c with
  | .list ds => if ds.length < 100000 then (setTr r.1 t.1 (setDP t.2 r.2 (.list (ds ++ [x]))) env).bind fun e => some (.none, e) else none
  | _ => none) else none
theorem TrA.fzs {K : Fg} {F : Hp} : ∀ {vs : List V} {ds : List D} {L : Nodes}, TrA K F .fz vs ds L → L = [] ∧ DtA K F vs ds
  | _, _, _, .nil => ⟨rfl, .nil⟩
  | _, _, _, .cons (.fz h) t => by
    obtain ⟨e, r⟩ := t.fzs
    exact ⟨by rw [e]; rfl, .cons h r⟩
theorem DtA.fzs {K : Fg} {F : Hp} : ∀ {vs : List V} {ds : List D}, DtA K F vs ds → TrA K F .fz vs ds []
  | _, _, .nil => .nil
  | _, _, .cons h t => .cons (L := []) (M := []) (.fz h) t.fzs
theorem de_appP {pl : Plf} {f : Qf} (ho : PE X o (tPl (X.kg Tb) pl)) (he : PE X e (tQ (X.kg Tb) f))
    (hbase : attributeBase o "append" X.env (eval o X.env) = eval o X.env := by rfl)
    (hfew : ((backTo cpos (starEach [e] X.env)).all (fun x => !x.1) && (backToKw cpos (keywordEach [] X.env)).all (fun x => x.1.isSome)
      && decide ([e].length + ([] : List Keyword).length + (if ([] : List Keyword).isEmpty then 0 else 1) < 30)) = true := by rfl)
    (hline : (apos.endLine == cpos.line) = true := by rfl) (hs : starEach [e] X.env = (false, eval e X.env) :: starEach [] X.env := by rfl) (hplain : (backTo cpos (starEach [] X.env)).any (·.1) = false := by rfl) :
    PE X (.Call (.Attribute o "append" apos) [e] [] cpos) (tD (X.kg Tb) (eAppP pl f)) :=
  PEi (pe_bm PySem.F.plainAttrs_list PySem.F.slot_list_append PySem.F.type_list_append mt_append ho (pa_cons he pa_nil hs) hbase hfew hline hs hplain) fun σ H Q ⟨B, F, env, d, env', S, ef, k⟩ => by
    obtain ⟨⟨i, π⟩, q1, ef⟩ := bd ef
    obtain ⟨x, q2, ef⟩ := bd ef
    obtain ⟨⟨s, t⟩, q3, ef⟩ := bd ef
    obtain ⟨c, q4, ef⟩ := bd ef
    split at ef
    · rename_i q5
      split at ef
      · rename_i ds
        split at ef
        · rename_i hl
          obtain ⟨e1, q6, ef⟩ := bd ef
          cases ef
          dsimp only at q3 q4 q5 q6
          obtain ⟨v0, v1, L1, L2, L3, h1, h2, h3, h4, h5, h6, h7⟩ := S.atP (trAt_is q3) q5 q4
          cases h6 with
          | @ls _ p vs _ M ht =>
            obtain ⟨rfl, hd⟩ := ht.fzs
            have hp : H p = some (.lst vs) := (h5 _ (List.mem_append_right _ (List.mem_append_left _ List.mem_cons_self))).1
            refine ⟨B, F, env, i, π, S, q1, fun v hv => ?_⟩
            obtain ⟨v0', g1, g2⟩ := hv
            rw [h1] at g1; cases g1
            have := g2.det h2
            subst this
            refine ⟨.inl ⟨rfl, vs, SqL.of hp⟩, B, F, env, x, S, q2, fun w hw => ?_⟩
            refine ⟨p, vs, w, rfl, rfl, hp, by rw [hd.length]; exact szL' hl, ?_⟩
            obtain ⟨F', sb, S'⟩ := S.putP (N := []) (H' := upd H p (.lst (vs ++ [w]))) (o' := .lst (vs ++ [w])) (trAt_is q3) h1 h3 h4 h5 h7 (fun G sG => by
              have := (hd.append (.cons hw .nil)).mono sG
              simpa using Tr.ls (p := p) this.fzs) q6 List.nodup_nil (fun n hn => nomatch hn) upd_same (fun a u n hu => by rw [upd_ne n]; exact hu) (fun a u e n _ => by rw [upd_ne n] at e; exact e)
            exact k .non F' _ S' sb .non
        · cases ef
      · cases ef
    · cases ef
end
end DL
namespace DL
open PySem L2
theorem TrK.fzs {K : Fg} {F : Hp} : ∀ {vs : List (Key × V)} {ds : List (D × D)} {L : Nodes}, TrK K F .fz vs ds L → L = [] ∧ DtK K F vs ds
  | _, _, _, .nil => ⟨rfl, .nil⟩
  | _, _, _, .cons (.fz h) t => by
    obtain ⟨e, r⟩ := t.fzs
    exact ⟨by rw [e]; rfl, .cons h r⟩
theorem DtK.fzs {K : Fg} {F : Hp} : ∀ {vs : List (Key × V)} {ds : List (D × D)}, DtK K F vs ds → TrK K F .fz vs ds []
  | _, _, .nil => .nil
  | _, _, .cons h t => .cons (L := []) (M := []) (.fz h) t.fzs
theorem TrK.length {K : Fg} {F : Hp} : ∀ {s : Sh} {vs : List (Key × V)} {ds : List (D × D)} {L : Nodes}, TrK K F s vs ds L → vs.length = ds.length
  | _, _, _, _, .nil => rfl
  | _, _, _, _, .cons _ t => congrArg Nat.succ t.length
theorem TrK.snoc {K : Fg} {F : Hp} {k : Key} {v : V} {d : D} {N : Nodes} : ∀ {s : Sh} {vs : List (Key × V)} {ds : List (D × D)} {L : Nodes}, TrK K F s vs ds L → Tr K F s v d N → TrK K F s (vs ++ [(k, v)]) (ds ++ [(kD k, d)]) (L ++ N)
  | _, _, _, _, .nil, h => by
    have := TrK.cons (k := k) h (TrK.nil (K := K) (F := F))
    simpa using this
  | _, _, _, _, .cons (k := k') h0 t, h => by
    have := TrK.cons (k := k') h0 (t.snoc (k := k) h)
    simpa using this
theorem TrK.none {K : Fg} {F : Hp} {k : Key} : ∀ {s : Sh} {vs : List (Key × V)} {ds : List (D × D)} {L : Nodes}, TrK K F s vs ds L → findK ds k = .none → valV vs k = .none
  | _, _, _, _, .nil, _ => rfl
  | _, _, _, _, .cons (k := k') (ds := ds) h t, e => by
    by_cases hk : k' = k
    · subst hk
      simp [findK, keyD_kD] at e
    · have e' : findK ds k = .none := by simpa [findK, keyD_kD, hk] using e
      have := TrK.none t e'
      simpa [valV, hk] using this
end DL
namespace DL
open PySem L2
abbrev Mf := En → Option (Sh × D × En)
def tM (K : Fg) (f : Mf) : TE := fun σ H Q => ∃ B F env s d env', Sl K B F H σ env ∧ f env = some (s, d, env') ∧ ∀ v L F' H', Sl K B F' H' σ env' → Sub F F' → Tr K F' s v d L → Ndp L → Loose B F' H' σ env' L → Q v H'
def mF (f : Df) : Mf := fun env => (f env).bind fun r => some (.fz, r.1, r.2)
/-- a new object fits a shape -/
def fits : Sh → D → Bool
  | .ls .fz, .list _ => true
  | .ls _, .list [] => true
  | .dk .fz, .dict es => plainTy (.dict es)
  | .dk _, .dict [] => true
  | .dt .fz, .dict ((.bool true, .none) :: _) => true
  | .dt _, .dict [(.bool true, .none)] => true
  | _, _ => false
def mN (s : Sh) (f : Df) : Mf := fun env => (f env).bind fun r => if fits s r.1 = true then some (s, r.1, r.2) else none
/-- a name's own object is handed on: the name is empty then -/
def mOw (s : Sh) (i : Nat) : Mf := fun env => match env[i]? with
  | some (.ow d) => if fits s d = true then some (s, d, env.set i .un) else none
  | _ => none
theorem TrT.fzs' {K : Fg} {F : Hp} : ∀ {vs : List (List Key × V)} {ds : List (D × D)}, DtT K F vs ds → TrT K F .fz vs ds []
  | _, _, .nil => .nil
  | _, _, .cons h t => .cons (L := []) (M := []) (.fz h) (TrT.fzs' t)
theorem own_tree {K : Fg} {F H : Hp} {p : Addr} {d : D} {s : Sh} (h : Own K F H p d) (f : fits s d = true) : ∃ o, H p = some o ∧ Tr K F s (.ref p) d [(p, o)] := by
  unfold fits at f
  split at f
  · obtain ⟨vs, e, t⟩ := h; exact ⟨_, e, .ls t.fzs⟩
  · obtain ⟨vs, e, t⟩ := h; cases t; exact ⟨_, e, .ls .nil⟩
  · rcases h with ⟨kvs, e, t⟩ | ⟨kvs, es', e0, e, t⟩ | ⟨_, _, _, _, _, e0, _⟩
    · exact ⟨_, e, .dk t.fzs⟩
    · cases e0; cases f
    · cases e0; cases f
  · rcases h with ⟨kvs, e, t⟩ | ⟨kvs, es', e0, e, t⟩ | ⟨_, _, _, _, _, e0, _⟩
    · cases t; exact ⟨_, e, .dk .nil⟩
    · cases e0
    · cases e0
  · rcases h with ⟨kvs, e, t⟩ | ⟨kvs, es', e0, e, t⟩ | ⟨_, _, _, _, _, e0, _⟩
    · obtain ⟨k, hk⟩ := t.key _ List.mem_cons_self
      cases k <;> cases hk
    · cases e0; exact ⟨_, e, .dt (TrT.fzs' t)⟩
    · cases e0
  · rcases h with ⟨kvs, e, t⟩ | ⟨kvs, es', e0, e, t⟩ | ⟨_, _, _, _, _, e0, _⟩
    · obtain ⟨k, hk⟩ := t.key _ List.mem_cons_self
      cases k <;> cases hk
    · cases e0; cases t; exact ⟨_, e, .dt .nil⟩
    · cases e0
  · cases f
theorem ndp1 (q : Addr × HO) : Ndp [q] := List.pairwise_singleton _ _
section
variable {X : Cx} {Tb : TbT} {e : Expr} {es : List Expr} {x : Str} {pos : Pos}
theorem dm_fz {f : Df} (h : PE X e (tD (X.kg Tb) f)) : PE X e (tM (X.kg Tb) (mF f)) := PEi h fun σ H Q ⟨B, F, env, s, d, env', S, ef, k⟩ => by
  obtain ⟨⟨d', e1⟩, q, ef⟩ := bd ef
  cases ef
  exact ⟨B, F, env, _, _, S, q, fun v F' H' S' s' hd => k v [] F' H' S' s' (.fz hd) List.nodup_nil fun _ z => nomatch z⟩
theorem dm_new {s : Sh} {f : Df} (h : PE X e (tN (X.kg Tb) f)) : PE X e (tM (X.kg Tb) (mN s f)) := PEi h fun σ H Q ⟨B, F, env, s', d, env', S, ef, k⟩ => by
  obtain ⟨⟨d', e1⟩, q, ef⟩ := bd ef
  dsimp only at ef
  split at ef
  · rename_i hf
    cases ef
    refine ⟨B, F, env, _, _, S, q, fun p F' H' S' s' n n0 no nx ow => ?_⟩
    obtain ⟨o, ho, t⟩ := own_tree ow hf
    exact k _ _ F' H' S' s' t (ndp1 _) fun r hr => by
      rw [List.mem_singleton] at hr
      subst hr
      exact ⟨ho, n, n0, no, nx⟩
  · cases ef
theorem Sl.drop {K : Fg} {B : Bs} {F H : Hp} {σ : L2.St} {env : En} {i : Nat} {d : D} (S : Sl K B F H σ env) (e : env[i]? = some (.ow d)) : Sl K B F H σ (env.set i .un) := by
  have hi : i < env.length := (List.getElem?_eq_some_iff.mp e).1
  have ow' : ∀ {j : Nat} {x : D}, IsOw (env.set i .un) j x → IsOw env j x := fun {j x} q => by
    rcases q with q | q
    · rcases set_other hi q with ⟨_, z⟩ | ⟨_, b⟩
      · cases z
      · exact .inl b
    · rcases set_other hi q with ⟨_, z⟩ | ⟨_, b⟩
      · cases z
      · exact .inr b
  refine ⟨S.fh, by simpa using S.len, fun j x q => ?_, fun j x q => S.own j x (ow' q), fun j k x y p a b => S.ap j k x y p (ow' a) (ow' b), fun q hq => ?_, S.f0, S.nw, S.kp, S.lc, fun q hq => ?_, S.lk, fun j s y q => S.tr j s y (set_tr hi (fun _ _ => ⟨(by intro z; cases z), (by intro z; cases z)⟩) q).2, S.mr, S.gv, S.kt, S.tb⟩
  · rcases set_other hi q with ⟨_, z⟩ | ⟨_, b⟩
    · cases z
    · exact S.fz j x b
  · obtain ⟨⟨x, hx⟩, h2⟩ := S.pm q hq
    have : q.1 ≠ i := by
      rintro z
      unfold IsPw at hx
      rw [z, e] at hx
      rcases hx with hx | ⟨_, _, _, hx⟩ <;> cases hx
    exact ⟨⟨x, by unfold IsPw; rw [List.getElem?_set_ne (Ne.symm this)]; exact hx⟩, h2⟩
  · obtain ⟨g1, g2, g3, g4⟩ := S.hx q hq
    exact ⟨g1, g2, g3, fun j x h => g4 j x (ow' h)⟩
theorem dm_ow (s : Sh) (i : Nat) (hN : X.N[i]? = some x := by rfl) (hv : Vis X.env.scope x := by first | exact Or.inl rfl | exact Or.inr (Or.inl rfl) | exact Or.inr (Or.inr rfl)) (hd : (x == ("__debug__" : Str)) = false := by decide)
    (hcd : (x == ("__classdict__" : Str)) = false := by decide) : PE X (.Name x pos) (tM (X.kg Tb) (mOw s i)) := PEi (pe_var hN hv hd hcd) fun σ H Q ⟨B, F, env, s', d, env', S, ef, k⟩ => by
  unfold mOw at ef
  split at ef
  · rename_i d' q
    split at ef
    · rename_i hf
      cases ef
      obtain ⟨p, h1, h2, h3, h4⟩ := S.own i d (.inl q)
      obtain ⟨o, ho, t⟩ := own_tree h3 hf
      have hi : i < env.length := (List.getElem?_eq_some_iff.mp q).1
      have n0 : B.H0 p = none := by
        rcases h4 with h4 | ⟨j, hj⟩
        · exact h4
        · exact (S.pmOw q h1 hj).elim
      refine ⟨_, h1, k _ _ F H (S.drop q) (Sub.refl F) t (ndp1 _) fun r hr => ?_⟩
      rw [List.mem_singleton] at hr
      subst hr
      refine ⟨ho, h2, n0, fun j y o' z => ?_, fun y hy z => ?_⟩
      · have o2 : j ≠ i ∧ IsOw env j y := by
          rcases o' with o' | o'
          · rcases set_other hi o' with ⟨_, w⟩ | ⟨a, b⟩
            · cases w
            · exact ⟨a, .inl b⟩
          · rcases set_other hi o' with ⟨_, w⟩ | ⟨a, b⟩
            · cases w
            · exact ⟨a, .inr b⟩
        exact o2.1 (S.ap j i y d p o2.2 (.inl q) z h1)
      · obtain ⟨_, _, _, g4⟩ := S.hx y hy
        exact g4 i d (.inl q) (by rw [z]; exact h1)
    · cases ef
  · cases ef
def sSetT (i : Nat) (f : Mf) : Sf := fun env => (f env).bind fun r => (put i (.tr r.1 r.2.1) r.2.2).bind fun e => some (.nx e)
def sRetT (f : Mf) : Sf := fun env => (f env).bind fun r => some (.rm r.1 r.2.1 r.2.2)
def eFz (f : Mf) : Df := fun env => (f env).bind fun r => if r.1.flat = true then some (r.2.1, r.2.2) else none
theorem dS_setT {wh : Wh} {i : Nat} {f : Mf} {pos' : Pos} (hN : X.N.Nodup) (he : PE X e (tM (X.kg Tb) f)) (hi : X.N[i]? = some x := by rfl) (hx : Loc X.env.scope x := by first | exact Or.inl rfl | exact Or.inr rfl) (hs : swapsWith e (some (.Name x pos')) pos.line X.env = pure false := by rfl) (hf : X.fn x = true ∨ X.env.scope.names.lookup x = some .local := by first | exact .inl rfl | exact .inr rfl | assumption) : PS X (.Assign [.Name x pos'] e pos) (tS (X.kg Tb) wh (sSetT i f)) :=
  PSi (ps_set hN hi hx he hs hf) fun E σ H ⟨B, F, env, r, S, ef, k⟩ => by
    obtain ⟨⟨s, d, e1⟩, q1, ef⟩ := bd ef
    obtain ⟨e2, q2, ef⟩ := bd ef
    cases ef
    obtain ⟨h1, h2, rfl⟩ := put_inv q2
    refine ⟨B, F, env, s, d, e1, S, q1, fun v L F' H' S' s' t nd lo => ?_⟩
    obtain ⟨F2, sb, S2⟩ := S'.setT h1 h2 t nd lo
    exact k _ F2 H' S2 (s'.trans sb)
theorem dS_retT {wh : Wh} {f : Mf} (he : PE X e (tM (X.kg Tb) f)) : PS X (.Return (some e) pos) (tS (X.kg Tb) wh (sRetT f)) := PSi (ps_ret he) fun E σ H ⟨B, F, env, r, S, ef, k⟩ => by
  obtain ⟨⟨s, d, e1⟩, q1, ef⟩ := bd ef
  cases ef
  exact ⟨B, F, env, s, d, e1, S, q1, fun v L F' H' S' s' t nd lo => k v L σ F' H' S' s' t nd fun q hq => ⟨(lo q hq).1, (lo q hq).2.1, (lo q hq).2.2.1⟩⟩
end
end DL
namespace DL
open PySem L2
def Bs.holdL (B : Bs) (L : Nodes) : Bs := { B with X := L ++ B.X }
section
variable {K : Fg} {B : Bs} {F H : Hp} {σ : L2.St} {env : En}
theorem Sl.holdL (S : Sl K B F H σ env) {L : Nodes} (lo : Loose B F H σ env L) : Sl K (B.holdL L) F H σ env :=
  ⟨S.fh, S.len, S.fz, S.own, S.ap, S.pm, S.f0, S.nw, S.kp, S.lc, fun q hq => by
    rcases List.mem_append.mp hq with hq | hq
    · obtain ⟨a, b, c, d, _⟩ := lo q hq
      exact ⟨a, b, c, d⟩
    · exact S.hx q hq, S.lk, S.tr, S.mr, S.gv, S.kt, ⟨S.tb.now, S.tb.at0, S.tb.nf⟩⟩
theorem Sl.unholdL {L : Nodes} (S : Sl K (B.holdL L) F H σ env) : Sl K B F H σ env :=
  ⟨S.fh, S.len, S.fz, S.own, S.ap, S.pm, S.f0, S.nw, S.kp, S.lc, fun q hq => S.hx q (List.mem_append_right _ hq), S.lk, S.tr, S.mr, S.gv, S.kt, ⟨S.tb.now, S.tb.at0, S.tb.nf⟩⟩
end
def evM : List Mf → En → Option (List (Sh × D) × En)
  | [], env => some ([], env)
  | f :: r, env => (f env).bind fun t => (evM r t.2.2).bind fun z => some ((t.1, t.2.1) :: z.1, z.2)
def shP : List (Sh × D) → Sh
  | [] => .nl
  | t :: r => .cn "" t.1 (shP r)
def tMA (K : Fg) (fs : List Mf) : TA := fun σ H Q => ∃ B F env ts env', Sl K B F H σ env ∧ evM fs env = some (ts, env') ∧ ∀ vs L F' H', Sl K B F' H' σ env' → Sub F F' → TrP K F' (shP ts) vs (ts.map (·.2)) L → Ndp L → Loose B F' H' σ env' L → Q vs H'
theorem TrP.length {K : Fg} {F : Hp} : ∀ {s : Sh} {vs : List V} {ds : List D} {L : Nodes}, TrP K F s vs ds L → vs.length = ds.length
  | _, _, _, _, .nil => rfl
  | _, _, _, _, .cons _ t => congrArg Nat.succ t.length
section
variable {X : Cx} {Tb : TbT} {e : Expr} {es : List Expr} {x : Str} {p pos : Pos}
theorem dma_nil : PA X [] (tMA (X.kg Tb) []) := PAi pa_nil fun σ H Q ⟨B, F, env, us, env', S, ef, k⟩ => by
  cases ef
  exact k [] [] F H S (Sub.refl F) .nil List.nodup_nil fun _ z => nomatch z
theorem dma_cons {f : Mf} {fs : List Mf} (ha : PE X e (tM (X.kg Tb) f)) (hr : PA X es (tMA (X.kg Tb) fs)) (hs : starEach (e :: es) X.env = (false, eval e X.env) :: starEach es X.env := by rfl) : PA X (e :: es) (tMA (X.kg Tb) (f :: fs)) :=
  PAi (pa_cons ha hr hs) fun σ H Q ⟨B, F, env, ts, env', S, ef, k⟩ => by
    obtain ⟨⟨s, d, e1⟩, q, ef⟩ := bd ef
    obtain ⟨⟨ts', e2⟩, q2, ef⟩ := bd ef
    cases ef
    refine ⟨B, F, env, s, d, e1, S, q, fun v L F1 H1 S1 s1 t1 nd1 lo1 => ⟨B.holdL L, F1, e1, ts', _, S1.holdL lo1, q2, fun vs L2 F2 H2 S2 s2 t2 nd2 lo2 => ?_⟩⟩
    refine k (v :: vs) (L ++ L2) F2 H2 S2.unholdL (s1.trans s2) (.cons (t1.mono s2) t2) ?_ fun r hr => ?_
    · unfold Ndp
      rw [List.map_append]
      refine List.nodup_append.mpr ⟨nd1, nd2, fun a ha b hb e => ?_⟩
      subst e
      obtain ⟨r1, hr1, rfl⟩ := List.mem_map.mp ha
      obtain ⟨r2, hr2, e⟩ := List.mem_map.mp hb
      exact (lo2 r2 hr2).2.2.2.2 r1 (List.mem_append_left _ hr1) e.symm
    · rcases List.mem_append.mp hr with hr | hr
      · obtain ⟨g1, g2, g3, g4⟩ := S2.hx r (List.mem_append_left _ hr)
        exact ⟨g1, g2, g3, g4, (lo1 r hr).2.2.2.2⟩
      · obtain ⟨g1, g2, g3, g4, g5⟩ := lo2 r hr
        exact ⟨g1, g2, g3, g4, fun y hy => g5 y (List.mem_append_right _ hy)⟩
theorem Tr.isRef {K : Fg} {F : Hp} {s : Sh} {v : V} {d : D} {L : Nodes} (h : Tr K F s v d L) (n : s ≠ .fz) : ∃ p, v = .ref p := by
  cases h <;> first | exact absurd rfl n | exact ⟨_, rfl⟩
theorem TrP.noKeys {K : Fg} {F : Hp} : ∀ {ts : List (Sh × D)} {vs : List V} {ds : List D} {L : Nodes}, TrP K F (shP ts) vs ds L → (ts.any fun t => decide (t.1 ≠ .fz)) = true → ∀ ks : List Key, vs ≠ ks.map kV
  | [], _, _, _, _, h, _ => nomatch h
  | t :: ts, _, _, _, .cons h0 h1, h, ks => by
    intro e
    cases ks with
    | nil => cases e
    | cons k ks =>
      injection e with e1 e2
      simp only [List.any_cons, Bool.or_eq_true, decide_eq_true_eq] at h
      rcases h with h | h
      · obtain ⟨p, rfl⟩ := h0.isRef h
        cases k <;> cases e1
      · exact TrP.noKeys h1 h ks e2
def mTup (fs : List Mf) : Mf := fun env => (evM fs env).bind fun r => if r.1.length ≤ 100000 ∧ (r.1.any fun t => decide (t.1 ≠ .fz)) = true then some (.tp (shP r.1), .tuple (r.1.map (·.2)), r.2) else none
theorem dm_tup {fs : List Mf} {x1 : Nat} (h : PA X es (tMA (X.kg Tb) fs)) : PE X (.Tuple es x1 pos) (tM (X.kg Tb) (mTup fs)) := PEi (pe_tup h) fun σ H Q ⟨B, F, env, s, d, env', S, ef, k⟩ => by
  obtain ⟨⟨ts, e1⟩, q, ef⟩ := bd ef
  dsimp only at ef
  split at ef
  · rename_i hl'
    obtain ⟨hl, hany⟩ := hl'
    cases ef
    refine ⟨B, F, env, ts, _, S, q, fun vs L F' H' S' s' t nd lo => ⟨by rw [t.length, List.length_map]; exact szL hl, fun a ha => ?_⟩⟩
    refine k (.ref a) ((a, .tup vs) :: L) F' _ (S'.laid ha (fun ks z => t.noKeys hany ks (by injection z))) s' (.tp t) ?_ fun r hr => ?_
    · refine List.nodup_cons.mpr ⟨fun z => ?_, nd⟩
      obtain ⟨r, hr, e⟩ := List.mem_map.mp z
      have := (lo r hr).1
      dsimp only at e
      rw [e, ha] at this; cases this
    · rcases List.mem_cons.mp hr with rfl | hr
      · exact ⟨upd_same, S'.fh.none ha, S'.fresh ha, fun i y o => S'.neOw ha o, S'.neX ha⟩
      · obtain ⟨g1, g2⟩ := lo r hr
        exact ⟨by rw [upd_ne (ne_of_none g1 ha)]; exact g1, g2⟩
  · cases ef
def eCallM (fl : List Bool) (s : Sh) (g : List D → Option (D × List D)) (os : List Opd) : Mf := fun env => (eCall fl g os env).bind fun r => some (shO s r.1, r.1, r.2)
theorem callM_le {K : Fg} {E : XK} {fl : List Bool} {s : Sh} {g : List D → Option (D × List D)} {os : List Opd} : ∀ σ H Q, tM K (eCallM fl s g os) σ H Q → tCall (spD K fl (.tr s) g) [] E (tAr K os) σ H Q := fun σ H Q ⟨B, F, env, s0, d, env', S, ef, kk⟩ => by
  obtain ⟨⟨d0, e0⟩, ef0, hh⟩ := bd ef
  clear ef
  cases hh
  obtain ⟨⟨us, e1⟩, q1, ef1⟩ := bd ef0
  obtain ⟨ds, q2, ef2⟩ := bd ef1
  obtain ⟨⟨d', os'⟩, q3, ef3⟩ := bd ef2
  obtain ⟨e2, q4, ef4⟩ := bd ef3
  cases ef4
  refine ⟨B, F, env, us, e1, S, q1, fun vs F1 H1 S1 s1 h1 => ?_⟩
  obtain ⟨M, a, b, c⟩ := callIn_args S1 0 h1 q2
  rw [List.append_nil]
  refine ⟨er F1, ds, _, os', M, er_lk S1.fh, er_no _, S1.kpE, a.mono (er_sub _) (fun _ z => er_none z), apart_of (K := K) (B := B) (F := F) (H := H) (σ := σ) (e := e1) (by rw [b]; exact putBack_le q4), q3, fun v F' H' fh cl kt' s nw kp ok hd => ?_⟩
  have sb := mg_sub cl S1.fh nw
  have mn : ∀ q ∈ M, F1 q.2 = none := a.none
  have kpm : ∀ p o m, F1 p = some (.own m) → H1 p = some o → (∀ j, (j, p) ∉ M) → H' p = some o := fun p o m e h n => kp p o h n (S1.ntF e)
  obtain ⟨L, t, nd, hL⟩ := hd
  have S2 := S1.called q4 b c (mg_lk S1.fh fh mn kpm) (mg_old s) (mg_nw nw) kp (ok.mono sb fun q hq z => by rw [mg_at (fun m w => by rw [mn q hq] at w; cases w)]; exact z) (fun _ _ z => mg_mk z) (mg_new cl) (mg_kt S1.kt S1.fh kt'.kt mn kpm) kt'.tb
  refine kk v L (mg F1 F') H' S2 (s1.trans (mg_old s)) (t.mono sb) nd fun r hr => ?_
  obtain ⟨n1, n2, n0⟩ := hL r hr
  refine ⟨n1, by rw [mg_at (fun m w => by rw [S1.fh.none n0] at w; cases w)]; exact n2, S1.fresh n0, fun i d o z => ?_, S1.neX n0⟩
  obtain ⟨d1, o1⟩ : ∃ d1, IsOw e1 i d1 := by
    rcases putBack_inv q4 with ⟨_, he⟩ | ⟨j, d2, cs, _, q4⟩
    · subst he; exact ⟨d, o⟩
    · obtain ⟨m, p', d0, m1, m2, m3⟩ := c 0 j (by rw [cs]; rfl)
      by_cases hj : i = j
      · subst hj; exact ⟨d0, m2⟩
      · unfold DL.chg at q4
        have hji : j ≠ i := Ne.symm hj
        rcases m2 with m2 | m2
        · rw [m2] at q4; cases q4
          rcases o with o | o
          · exact ⟨d, .inl (by rw [List.getElem?_set_ne hji] at o; exact o)⟩
          · exact ⟨d, .inr (by rw [List.getElem?_set_ne hji] at o; exact o)⟩
        · rw [m2] at q4; cases q4
          rcases o with o | o
          · exact ⟨d, .inl (by rw [List.getElem?_set_ne hji] at o; exact o)⟩
          · exact ⟨d, .inr (by rw [List.getElem?_set_ne hji] at o; exact o)⟩
  exact S1.neOw n0 o1 z
theorem Sl.view {K : Fg} {B : Bs} {F H : Hp} {σ : L2.St} {env : En} {i : Nat} {s : Sh} {d : D} (S : Sl K B F H σ env) (q : IsTr env i s d) (f : s.flat = true) : ∃ v G, σ[i]? = some (some v) ∧ Lk G H ∧ Dt K G v d := by
  obtain ⟨v, L, h1, h2, h3, h4⟩ := S.tr i s d q
  obtain ⟨G, hG⟩ : ∃ G : Hp, G = fun a => if a ∈ L.map (·.1) then H a else F a := ⟨_, rfl⟩
  have fin : ∀ a, a ∈ L.map (·.1) → G a = H a := fun a ha => by rw [hG]; exact if_pos ha
  have fout : ∀ a, a ∉ L.map (·.1) → G a = F a := fun a ha => by rw [hG]; exact if_neg ha
  have sb : Sub F G := fun a o e m => by
    rw [fout a (fun z => ?_)]
    · exact e
    · obtain ⟨r, hr, rfl⟩ := List.mem_map.mp z
      rw [(h4 r hr).2] at e; cases e; cases m
  refine ⟨v, G, h1, fun a o e => ?_, h2.froze sb f fun r hr => by rw [fin _ (List.mem_map.mpr ⟨r, hr, rfl⟩)]; exact (h4 r hr).1⟩
  by_cases ha : a ∈ L.map (·.1)
  · rw [fin a ha] at e; exact .inl e
  · rw [fout a ha] at e; exact S.fh a o e
def eReprT (i : Nat) : Df := fun env => (trAt env i).bind fun t => if t.1.flat = true then (gRepr t.2).bind fun r => some (r, env) else none
theorem de_reprT {k i : Nat} {p2 : Pos} (gd : X.A.guards = some []) (hr : Room k X.A) (hg : Gl X "repr") (hm : X.mg "repr" = none) (hN : X.N[i]? = some x := by rfl) (hv : Vis X.env.scope x := by first | exact Or.inl rfl | exact Or.inr (Or.inl rfl) | exact Or.inr (Or.inr rfl)) (hd : (x == ("__debug__" : Str)) = false := by decide)
    (hcd : (x == ("__classdict__" : Str)) = false := by decide) (he : starEach [.Name x p2] X.env = [(false, eval (.Name x p2) X.env)] := by rfl) (hpl : (backTo pos (starEach [] X.env)).any (·.1) = false := by rfl) :
    PE X (.Call (.Name "repr" p) [.Name x p2] [] pos) (tD (X.kg Tb) (eReprT i)) :=
  PEi (pe_callB (call_reprD gd hr.units) hg hm (by decide +kernel) (pa_cons (pe_var hN hv hd hcd) pa_nil he) (by decide) (by decide) he hpl) fun σ H Q ⟨B, F, env, d, env', S, ef, k⟩ => by
    obtain ⟨⟨s, t⟩, q1, ef⟩ := bd ef
    dsimp only at ef
    split at ef
    · rename_i hf
      obtain ⟨r, q2, ef⟩ := bd ef
      cases ef
      unfold gRepr at q2
      split at q2
      · rename_i ok
        cases q2
        obtain ⟨v, G, h1, h2, h3⟩ := S.view (trAt_is q1) hf
        exact ⟨v, h1, v, t, G, rfl, h2, h3, ok, k _ F H S (Sub.refl _) (.str _)⟩
      · cases q2
    · cases ef
end
end DL
namespace DL
open PySem PySem.Spec PyProof.Rows L2
end DL
namespace L2
open PySem PySem.W
section
variable {X : Cx} {e : Expr} {es : List Expr} {ta : TA} {x : Str} {p1 p2 pos : Pos} {C0 : Addr}
theorem pe_oinit {pl : Sem Bool} (hg : Gl X x) (hm : X.mg x = some (.ref C0)) (hga : PySem.W.specialIn X.K (.ref C0) "__getattribute__" = some (some (.builtin "type.__getattribute__"))) (hr : PySem.W.readsIn X.K C0 (.type "type") = true) (hv : PySem.W.findCls X.K (.ref C0) (.type "type") "__init__" = some (.val (.builtin "ValueError.__init__")))
    (ha : PA X (e :: es) ta)
    (hc : eval (.Call (.Attribute (.Name x p1) "__init__" p2) (e :: es) [] pos) X.env = (do
      let ov ← eval (.Name x p1) X.env
      standAt p2.atName
      let (f, first) ← holding [ov] (getMethod ov "__init__" pl)
      callWith pos f first (backTo pos (starEach (e :: es) X.env)) (backToKw pos (keywordEach [] X.env))) := by rfl) (hdb : (x == ("__debug__" : Str)) = false := by decide)
    (he : starEach (e :: es) X.env = (false, eval e X.env) :: starEach es X.env := by rfl) (hpl : (backTo pos (starEach es X.env)).any (·.1) = false := by rfl) :
    PE X (.Call (.Attribute (.Name x p1) "__init__" p2) (e :: es) [] pos) (tVeI X.K ta) := by
  refine ⟨fun pins s σ H Q I h => ?_⟩
  refine PySem.W.methodCall_KW (ld_glob I hg hm ?_ hdb) hc
  refine PySem.W.method_cls I.kIn hga ?_
  refine PySem.W.cls_value I.kIn hr hv (by decide +kernel) ?_
  show wpAny _ _ (callWith pos (Value.builtin "ValueError.__init__") [] (backTo pos (starEach (e :: es) X.env)) []) _ _ _
  refine PyProof.Rows.callWith_method1 (thn (ha.run pos pins _ σ H _ (I.tok _) h) fun us s1 ⟨vs, H1, I1, r1, a, C, ws, ev, hl, T, ea, q⟩ => ?_) he hpl
  subst ev
  cases r1 with
  | @cons _ u0 _ ur ra rw' =>
    obtain rfl : u0 = Value.ref a := ra
    have hlen : ur.length ≤ sizeLine := by
      rw [← Paired.length rw', sizeLine_eq]
      omega
    exact oinit_ok T I1 ea hlen fun s' J => ⟨.non, H1, J, rfl, q⟩
end
end L2
namespace DL
open PySem L2
theorem ExOk.mono {K : Fg} {H0 G0 F G H : Hp} {X0 X1 : List (Addr × HO)} {x : Ex} {cls : Value} {dd : Option Addr} (h : ExOk K H0 X0 F H x cls dd) (s : Sub F G) (n : ∀ a, H0 a = none → F a = none → (∀ q ∈ X0, q.1 ≠ a) → G0 a = none ∧ (∀ q ∈ X1, q.1 ≠ a) ∧ G a = none) : ExOk K G0 X1 G H x cls dd := by
  obtain ⟨h1, h2⟩ := h
  refine ⟨h1, ?_⟩
  obtain ⟨c, fld⟩ := x
  cases fld with
  | none => exact h2
  | some q =>
    obtain ⟨a, v, e, n0, nx, n1, ha, hd⟩ := h2
    exact ⟨a, v, e, (n a n0 n1 nx).1, (n a n0 n1 nx).2.1, (n a n0 n1 nx).2.2, ha, hd.mono s⟩
def spX (K : Fg) (fl : List Bool) (rk : Rk) (g : List D → Option ((D ⊕ Ex) × List D)) : Sp := fun vs H Q E => ∃ F ds r os M, Lk F H ∧ NoMk F ∧ KP K F H ∧ ArgsOk K F H 0 fl vs ds M ∧ Apart M ∧ g ds = some (r, os) ∧
  ∀ F' H', Lk F' H' → NoMk F' → KP K F' H' → Sub F F' → (∀ p, F p = none → F' p ≠ none → H p = none ∧ ∀ ob u, F' p = some u → H' p ≠ some (.frz ob u)) → (∀ p o, H p = some o → (∀ j, (j, p) ∉ M) → ¬ K.tb p → H' p = some o) → OutsOk K F' H' M os →
    (∀ d v, r = .inl d → RetOk K rk H F' H' v d → Q v H') ∧ ∀ x cls dd, r = .inr x → ExOk K H [] F' H' x cls dd → E cls dd H'
def gOfX (n : Nat) (fl : List Bool) (body : Sf) (ds : List D) : Option ((D ⊕ Ex) × List D) := if ds.length = fl.length then (body (env0 n fl ds)).bind fun r => match r with
  | .nx e => (outsAt (slotsOf 0 fl) e).bind fun os => some (.inl .none, os)
  | .rt d e => (outsAt (slotsOf 0 fl) e).bind fun os => some (.inl d, os)
  | .xx x e => (outsAt (slotsOf 0 fl) e).bind fun os => some (.inr x, os)
  | _ => none else none
theorem bodyX_of {K : Fg} {N : List Str} {fl : List Bool} {body : Sf} {vs : List V} {H : Hp} {Q : VK} {E : XK} (h : spX K fl .fz (gOfX N.length fl body) vs H Q E) : tS K ⟨fun cls dd _ H' => E cls dd H'⟩ body { nx := fun _ H' => Q .non H', rt := Q } (L2.start N vs) H := by
  obtain ⟨F, ds, d, os, M, fh, nm, kt, ha, ap, hg, k⟩ := h
  unfold gOfX at hg
  rw [if_pos ha.len.2] at hg
  obtain ⟨r, hr, hg⟩ := bd hg
  refine ⟨⟨F, H, M, [], [], K.tb, noZ⟩, F, env0 N.length fl ds, r, sl_entry ha fh nm kt ap, hr, ?_⟩
  have nf : ∀ {σ' : L2.St} {F' H' : Hp} {e : En}, Sl K ⟨F, H, M, [], [], K.tb, noZ⟩ F' H' σ' e → ∀ p, F p = none → er F' p ≠ none → H p = none ∧ ∀ ob u, er F' p = some u → H' p ≠ some (.frz ob u) := fun {_ F' _ _} S p a b => by
    have b' : F' p ≠ none := fun z => b (er_none z)
    refine ⟨S.nw p a b', fun ob u e h => ?_⟩
    rcases S.lk p ob u (er_some e) h with z | ⟨z, _⟩
    · cases z
    · have n0 := S.nw p a b'
      dsimp only at z n0
      rw [n0] at z; cases z
  have out : ∀ {σ' : L2.St} {F' H' : Hp} {e : En}, Sl K ⟨F, H, M, [], [], K.tb, noZ⟩ F' H' σ' e → outsAt (slotsOf 0 fl) e = some os → OutsOk K (er F') H' M os := fun S q => by
    rw [← ha.slots] at q
    exact (outs_ok S (fun _ z => z) q).mono (er_sub _) fun _ _ z => er_none z
  cases r with
  | nx e =>
    obtain ⟨os', q, hg⟩ := bd hg
    cases hg
    exact fun σ' F' H' S s => (k (er F') H' (er_lk S.fh) (er_no _) S.kpE (s.trans (er_sub _)) (nf S) (fun p o a b c => S.kp p o a b (fun _ z => nomatch z) c) (out S q)).1 _ _ rfl (Dt.non : Dt K (er F') .non .none)
  | rt d' e =>
    obtain ⟨os', q, hg⟩ := bd hg
    cases hg
    exact fun v σ' F' H' S s hd => (k (er F') H' (er_lk S.fh) (er_no _) S.kpE (s.trans (er_sub _)) (nf S) (fun p o a b c => S.kp p o a b (fun _ z => nomatch z) c) (out S q)).1 _ _ rfl (hd.mono (er_sub _))
  | xx x e =>
    obtain ⟨os', q, hg⟩ := bd hg
    cases hg
    exact fun cls dd σ' F' H' S s hx => (k (er F') H' (er_lk S.fh) (er_no _) S.kpE (s.trans (er_sub _)) (nf S) (fun p o a b c => S.kp p o a b (fun _ z => nomatch z) c) (out S q)).2 _ _ _ rfl (hx.mono (er_sub _) fun a z1 z2 _ => ⟨z1, (fun _ z => nomatch z), er_none z2⟩)
  | rn d' e => cases hg
  | rm s0 d' e => cases hg
  | bk e => cases hg
  | ct e => cases hg
theorem spX_len {K : Fg} {fl : List Bool} {nw : Rk} {g : List D → Option ((D ⊕ Ex) × List D)} {ps : List Str} (hl : fl.length = ps.length) : ∀ vs H Q E, spX K fl nw g vs H Q E → vs.length = ps.length := fun vs H Q E h => by
  obtain ⟨F, ds, d, os, M, fh, _, _, ha, _⟩ := h
  rw [ha.len.1]
  exact hl
/-- what is told or raised -/
abbrev Dx := En → Option ((D ⊕ Ex) × En)
def tX (K : Fg) (wh : Wh) (f : Dx) : TE := fun σ H Q => ∃ B F env r env', Sl K B F H σ env ∧ f env = some (r, env') ∧
  (∀ d v F' H', r = .inl d → Sl K B F' H' σ env' → Sub F F' → Dt K F' v d → Q v H') ∧ ∀ x cls dd F' H', r = .inr x → Sl K B F' H' σ env' → Sub F F' → ExOk K B.H0 B.X F' H' x cls dd → wh.W cls dd σ H'
def eCallX (fl : List Bool) (g : List D → Option ((D ⊕ Ex) × List D)) (os : List Opd) : Dx := fun env => (evs os env).bind fun r => (callIn fl r.1 r.2).bind fun ds => (g ds).bind fun o => (putBack (callSl r.1) o.2 r.2).bind fun e => some (o.1, e)
theorem callX_le {K : Fg} {wh : Wh} {fl : List Bool} {g : List D → Option ((D ⊕ Ex) × List D)} {os : List Opd} : ∀ σ H Q, tX K wh (eCallX fl g os) σ H Q → tCallS (spX K fl .fz g) (WE wh.W) (tAr K os) σ H Q := fun σ H Q ⟨B, F, env, d, env', S, ef, kd, kx⟩ => by
  obtain ⟨⟨us, e1⟩, q1, ef⟩ := bd ef
  obtain ⟨ds, q2, ef⟩ := bd ef
  obtain ⟨⟨d', os'⟩, q3, ef⟩ := bd ef
  obtain ⟨e2, q4, ef⟩ := bd ef
  cases ef
  refine ⟨B, F, env, us, e1, S, q1, fun vs F1 H1 S1 s1 h1 => ?_⟩
  obtain ⟨M, a, b, c⟩ := callIn_args S1 0 h1 q2
  refine ⟨er F1, ds, _, os', M, er_lk S1.fh, er_no _, S1.kpE, a.mono (er_sub _) (fun _ z => er_none z), apart_of (K := K) (B := B) (F := F) (H := H) (σ := σ) (e := e1) (by rw [b]; exact putBack_le q4), q3, fun F' H' fh cl kt' s nw kp ok => ?_⟩
  have sb := mg_sub cl S1.fh nw
  have mn : ∀ q ∈ M, F1 q.2 = none := a.none
  have kpm : ∀ p o m, F1 p = some (.own m) → H1 p = some o → (∀ j, (j, p) ∉ M) → H' p = some o := fun p o m e h n => kp p o h n (S1.ntF e)
  have S2 := S1.called q4 b c (mg_lk S1.fh fh mn kpm) (mg_old s) (mg_nw nw) kp (ok.mono sb fun q hq z => by rw [mg_at (fun m w => by rw [mn q hq] at w; cases w)]; exact z) (fun _ _ z => mg_mk z) (mg_new cl) (mg_kt S1.kt S1.fh kt'.kt mn kpm) kt'.tb
  refine ⟨fun d v e hd => kd d v (mg F1 F') H' e S2 (s1.trans (mg_old s)) (Dt.mono sb hd), fun x cls dd e hx => kx x cls dd (mg F1 F') H' e S2 (s1.trans (mg_old s)) (hx.mono sb fun p z1 z2 _ => ⟨S1.fresh z1, S1.neX z1, ?_⟩)⟩
  have n1 : F1 p = none := S1.fh.none z1
  rw [mg_at (fun m w => by rw [n1] at w; cases w)]
  exact z2
def sDropX (f : Dx) : Sf := fun env => (f env).bind fun r => match r with
  | (.inl _, e) => some (.nx e)
  | (.inr x, e) => some (.xx x e)
def sRetX (f : Dx) : Sf := fun env => (f env).bind fun r => match r with
  | (.inl d, e) => some (.rt d e)
  | (.inr x, e) => some (.xx x e)
section
variable {X : Cx} {Tb : TbT} {e : Expr} {es : List Expr} {pos p : Pos} {wh : Wh} {f : Dx}
theorem dS_dropX (he : PE X e (tX (X.kg Tb) wh f)) (hs : swapsWith e none pos.line X.env = pure false := by rfl) : PS X (.Expr e pos) (tS (X.kg Tb) wh (sDropX f)) := PSi (ps_expr he hs) fun E σ H ⟨B, F, env, r, S, ef, k⟩ => by
  obtain ⟨⟨r1, e1⟩, q, ef⟩ := bd ef
  cases r1 with
  | inl d =>
    cases ef
    exact ⟨B, F, env, .inl d, e1, S, q, fun _ v F' H' _ S' s' _ => k σ F' H' S' s', fun x cls dd F' H' z => (nomatch z)⟩
  | inr x =>
    cases ef
    exact ⟨B, F, env, .inr x, e1, S, q, fun _ v F' H' z => (nomatch z), fun y cls dd F' H' z S' s' hx => by cases z; exact k cls dd σ F' H' S' s' hx⟩
theorem de_callX {k : Nat} {x : Str} {fa : Addr} {fd : FuncData} {ps : List Str} {fl : List Bool} {g : List D → Option ((D ⊕ Ex) × List D)} {os : List Opd} (tk : Takes X wh.W) (G : FnOk X.prog X.w X.K X.mg X.base (L2.CX X.prog X.w) k fa fd ps (spX (X.kg Tb) fl .fz g)) (hr : Room k X.A) (hg : Gl X x) (hm : X.mg x = some (.ref fa)) (hk : PySem.W.keepIn X.K (.ref fa) = true) (hb : Binds X.K fd ps [])
    (ha : PA X (e :: es) (tAr (X.kg Tb) os)) (hdb : (x == ("__debug__" : Str)) = false := by decide) (he : starEach (e :: es) X.env = (false, eval e X.env) :: starEach es X.env := by rfl) (hpl : (backTo pos (starEach es X.env)).any (·.1) = false := by rfl) :
    PE X (.Call (.Name x p) (e :: es) [] pos) (tX (X.kg Tb) wh (eCallX fl g os)) := PEi (pe_callS G hr hg hm hk hb (passAt tk) ha hdb he hpl) callX_le
end
/-- a def that may raise -/
theorem okX {P : Program} {w : World} {K : Fr} {mg : Str → Option Value} {base : Heap} {x : Str} {st : Stmt} {f : Addr} {fd : FuncData} {N ps : List Str} {k : Nat} {sp : Sp} (F : FnP K x st f fd) (S : FnScope N ps (defScope st)) (len : ∀ vs H Q E, sp vs H Q E → vs.length = ps.length)
    (body : ∀ (cdv : Value) (A : Around) (outer : List Env) (s : Shared) (H : Hp) (vs : List V) (Q : VK) (E : XK), Room k (A.deeper (PyProof.Rows.envOfC x (defScope st) s.heap.objs.size f cdv)) → sp vs H Q E →
      Takes (cxOf (L2.CX P w) P w K mg base N x (defScope st) f cdv A outer s H E) (fun cls d _ H => E cls d H) →
      ∃ t, PSs (cxOf (L2.CX P w) P w K mg base N x (defScope st) f cdv A outer s H E) (defBody st) t ∧ t { nx := fun _ H' => Q .non H', rt := Q } (L2.start N vs) H) : FnOk P w K mg base (L2.CX P w) (k + 1) f fd ps sp :=
  F.ok S len fun cdv A outer s H vs Q E hr hsp => body cdv A outer s H vs Q E hr hsp (takes_of rfl rfl rfl rfl)
end DL
namespace DL
open PySem L2
/-- what C's __init__ does: base's __init__, self.fld = v -/
def spI (C : Addr) (fld : Str) : Sp := fun vs H Q _ => ∃ a v, vs = [.ref a, v] ∧ H a = some (exo a C none) ∧ ∀ dx, H dx = none → dx ≠ a → Q .non (upd (upd H dx (exd dx [(fld, v)])) a (exo a C (some dx)))
def sRaise (x fld : Str) (f : Df) : Sf := fun env => (f env).bind fun r => some (.xx ⟨x, some (fld, r.1)⟩ r.2)
theorem raised_heap {H1 : Hp} {a dx C : Addr} {fld : Str} {v : V} (ha : H1 a = none) (hne : dx ≠ a) : upd (del (upd (upd (upd H1 a (exo a C none)) dx (exd dx [(fld, v)])) a (exo a C (some dx))) a) dx (.xd [(fld, v)]) = upd H1 dx (.xd [(fld, v)]) := by
  funext b
  by_cases h1 : b = dx
  · subst h1; rw [upd_same, upd_same]
  · rw [upd_ne h1, upd_ne h1]
    by_cases h2 : b = a
    · subst h2; rw [del_same, ha]
    · rw [del_ne h2, upd_ne h2, upd_ne h1, upd_ne h2]
section
variable {X : Cx} {Tb : TbT} {CX : CXT} {e : Expr} {x fld : Str} {p pos pos' : Pos} {C fI : Addr} {k : Nat} {fd : FuncData} {ps : List Str} {wh : Wh} {f : Df}
theorem dS_raise (hc : X.calm = true) (tk : Takes X wh.W) (T : OexC X.K C) (iC : PySem.W.findIn X.K (.ref C) "__init__" = some (some (.ref fI))) (tI : PySem.W.typeIn X.K (.ref fI) = some (.type "function"))
    (F1 : FnOk X.prog X.w X.K X.mg X.base CX k fI fd ps (spI C fld)) (hr : Room (k + 1) X.A) (hb : Binds X.K fd ps []) (hx : Passes CX X (fun _ _ _ => False)) (hg : Gl X x) (hm : X.mg x = some (.ref C)) (he : PE X e (tD (X.kg Tb) f))
    (hdb : (x == ("__debug__" : Str)) = false := by decide) (hse : starEach [e] X.env = (false, eval e X.env) :: starEach [] X.env := by rfl) :
    PS X (.Raise (some (.Call (.Name x p) [e] [] pos)) none pos') (tS (X.kg Tb) wh (sRaise x fld f)) := PSi (ps_raise hc tk (pmk_oex T iC tI F1 hr hb .nil hx hg hm (pa_cons he pa_nil hse) hdb hse rfl)) fun E σ H ⟨B, F, env, r, S, ef, kk⟩ => by
  obtain ⟨⟨d, e1⟩, q, ef⟩ := bd ef
  cases ef
  refine ⟨B, F, env, d, e1, S, q, fun v F1 H1 S1 s1 hd => ?_⟩
  refine ⟨by simp, fun a ha => ⟨a, v, rfl, upd_same, fun dx hdx hne => ⟨rfl, dx, [(fld, v)], upd_same, by rw [upd_ne hne]; exact upd_same, ?_, ?_⟩⟩⟩
  · rw [upd_ne hne] at hdx; exact hdx
  · have h1 : H1 dx = none := by rw [upd_ne hne] at hdx; exact hdx
    rw [raised_heap ha hne]
    exact kk (.ref C) (some dx) σ F1 _ (S1.laid h1) s1 ⟨⟨C, hm, rfl⟩, dx, v, rfl, S1.fresh h1, S1.neX h1, S1.fh.none h1, upd_same, hd⟩
end
end DL
namespace DL
open PySem L2
/-- what the text says of the base B -/
structure BaseC (K : Fr) (B : Addr) : Prop where
  ga : PySem.W.specialIn K (.ref B) "__getattribute__" = some (some (.builtin "type.__getattribute__"))
  rd : PySem.W.readsIn K B (.type "type") = true
  init : PySem.W.findCls K (.ref B) (.type "type") "__init__" = some (.val (.builtin "ValueError.__init__"))
theorem ok_init {P : Program} {w : World} {K : Fr} {mg : Str → Option Value} {base : Heap} {CX : CXT} {qual b fld par txt : Str} {pa : Arguments} {sc : Scope} {f C B : Addr} {fd : FuncData} {j : Nat} {p1 p2 p3 p4 p5 p6 p7 p8 p9 p10 : Pos} {dvs : List V} {kws : List (Str × V)} {pl : Env → Sem Bool}
    (F : FunD K "__init__" qual pa [.Expr (.Call (.Attribute (.Name b p1) "__init__" p2) [.Name "self" p3, .Constant (.str txt) j p4] [] p5) p6, .Assign [.Attribute (.Name "self" p7) fld p8] (.Name par p9) p10] sc dvs kws f fd)
    (S : FnScope ["self", par] ["self", par] sc) (hs : Vis sc "self") (hp : Vis sc par) (hb : sc.names.lookup b = some .globalImplicit) (hm : mg b = some (.ref B)) (hB : BaseC K B) (T : OexC K C) (hno : PySem.W.findIn K (.ref C) fld = some none)
    (hc : ∀ env : Env, eval (.Call (.Attribute (.Name b p1) "__init__" p2) [.Name "self" p3, .Constant (.str txt) j p4] [] p5) env = (do
      let ov ← eval (.Name b p1) env
      standAt p2.atName
      let (f, first) ← holding [ov] (getMethod ov "__init__" (pl env))
      callWith p5 f first (backTo p5 (starEach [.Name "self" p3, .Constant (.str txt) j p4] env)) (backToKw p5 (keywordEach [] env))) := by intro _; rfl)
    (hd : (b == ("__debug__" : Str)) = false := by decide) (hdp : (par == ("__debug__" : Str)) = false := by decide) (hcp : (par == ("__classdict__" : Str)) = false := by decide) : FnOk P w K mg base CX 1 f fd ["self", par] (spI C fld) := by
  refine F.ok S (fun vs H Q E h => ?_) fun cdv A outer s H vs Q E hr h => ?_
  · obtain ⟨a, v, rfl, _⟩ := h; rfl
  · obtain ⟨a, v, rfl, ha, q⟩ := h
    refine ⟨_, pss_cons (ps_expr (pe_oinit (C0 := B) ?g hm hB.ga hB.rd hB.init (pa_cons (pe_var (i := 0) rfl hs) (pa_cons pe_str pa_nil)) (hc _) hd)) (pss_one (ps_ost (pe_var (i := 0) rfl hs) (pe_var (i := 1) rfl hp hdp hcp) rfl)), ?r⟩
    case g => exact hb
    case r =>
      refine ⟨_, rfl, ⟨a, C, [.str txt], rfl, by simp, T, ha, ⟨_, rfl, ⟨_, rfl, a, C, rfl, T, hno, .inl ⟨ha, fun dx h1 h2 => q dx h1 h2⟩⟩⟩⟩⟩
end DL
namespace DL
open PySem L2
theorem passF {X : Cx} : Passes (L2.CX X.prog X.w) X E0 := fun pins σ H s e s' I c => by
  obtain ⟨a, B, H', cls, d, _, _, _, _, _, _, _, z⟩ := c
  exact z.elim
/-- what is told -/
def told (g : List D → Option ((D ⊕ Ex) × List D)) : List D → Option (D × List D) := fun ds => (g ds).bind fun o => match o with
  | (.inl d, os) => some (d, os)
  | _ => none
theorem sp_told {K : Fg} {fl : List Bool} {rk : Rk} {g : List D → Option ((D ⊕ Ex) × List D)} {vs : List V} {H : Hp} {Q : VK} {E : XK} (h : spD K fl rk (told g) vs H Q E) : spX K fl rk g vs H Q E := by
  obtain ⟨F, ds, d, os, M, fh, nm, kt, ha, ap, hg, k⟩ := h
  obtain ⟨⟨r, os'⟩, q, hg⟩ := bd hg
  cases r with
  | inr x => cases hg
  | inl d' =>
    cases hg
    refine ⟨F, ds, .inl d, os, M, fh, nm, kt, ha, ap, q, fun F' H' a1 a2 a3 a4 a5 a6 a7 => ⟨fun d2 v e hd => ?_, fun x cls dd e => nomatch e⟩⟩
    cases e
    exact k v F' H' a1 a2 a3 a4 a5 a6 a7 hd
section
variable {X : Cx} {Tb : TbT} {e : Expr} {es : List Expr} {x : Str} {p pos : Pos} {k : Nat} {f : Addr} {fd : FuncData} {ps : List Str} {fl : List Bool} {g : List D → Option ((D ⊕ Ex) × List D)} {os : List Opd} {mg : Str → Option Value}
theorem call_told {K : Fg} {E : XK} {os : List Opd} {rk : Rk} {fl : List Bool} {g : List D → Option ((D ⊕ Ex) × List D)} : ∀ σ H Q, tCall (spD K fl rk (told g)) [] E (tAr K os) σ H Q → tCall (spX K fl rk g) [] E (tAr K os) σ H Q := fun σ H Q ⟨B, F, env, us, e1, S, q1, k⟩ => ⟨B, F, env, us, e1, S, q1, fun vs F1 H1 S1 s1 h1 => sp_told (k vs F1 H1 S1 s1 h1)⟩
theorem de_callT (G : FnOk X.prog X.w X.K X.mg X.base (L2.CX X.prog X.w) k f fd ps (spX (X.kg Tb) fl .fz g)) (hr : Room k X.A) (hg : Gl X x) (hm : X.mg x = some (.ref f)) (hk : PySem.W.keepIn X.K (.ref f) = true) (hb : Binds X.K fd ps [])
    (ha : PA X (e :: es) (tAr (X.kg Tb) os)) (hdb : (x == ("__debug__" : Str)) = false := by decide) (he : starEach (e :: es) X.env = (false, eval e X.env) :: starEach es X.env := by rfl) (hpl : (backTo pos (starEach es X.env)).any (·.1) = false := by rfl) :
    PE X (.Call (.Name x p) (e :: es) [] pos) (tD (X.kg Tb) (eCall fl (told g) os)) := PEi (pe_call (E := E0) G hr hg hm hk hb .nil passF ha hdb he hpl) fun σ H Q h => call_told σ H Q (call_le σ H Q h)
end
end DL
namespace L2
open PySem
theorem Inv.track {X : Cx} {pins : List (Addr × Obj)} {σ : St} {H : Hp} {s : Shared} {a : Addr} {oe : Obj} {o : HO} (I : Inv X pins σ H s) (hn : H a = none) (ha : s.heap.get? a = some oe) (n0 : X.s_0.heap.get? a = none) (nL : a ≠ X.env.locals) (nc : ∀ v, oe.data ≠ .cell v)
    (np : ∀ p ∈ X.pn ++ pins, p.1 ≠ a) (new : ObjOk X.prog X.w (upd H a o) s.heap a o) : Inv X pins σ (upd H a o) s := by
  refine ⟨I.ok, I.os, I.bare, ⟨I.base.keep, I.base.slot, fun b u h1 h2 h3 => ?_, I.base.there, fun b xs h => ?_, fun b u v h => ?_, fun b ps h => ?_⟩, I.loc, I.cell, ?_, fun x c hc => ?_, fun p hp => ?_, HOk.laidN I.hok (fun _ _ z => z) hn new, I.len⟩
  · have ne : b ≠ a := by rintro rfl; rw [n0] at h1; cases h1
    rw [upd_ne ne]; exact I.base.free b u h1 h2 h3
  · have q := I.base.tups b xs h
    have ne : b ≠ a := by rintro rfl; rw [hn] at q; cases q
    rw [upd_ne ne]; exact q
  · have q := I.base.frzs b u v h
    have ne : b ≠ a := by rintro rfl; rw [hn] at q; cases q
    rw [upd_ne ne]; exact q
  · obtain ⟨more, q⟩ := I.base.tbls b ps h
    have ne : b ≠ a := by rintro rfl; rw [hn] at q; cases q
    exact ⟨more, by rw [upd_ne ne]; exact q⟩
  · rw [upd_ne (Ne.symm nL)]; exact I.free
  · have ne : c ≠ a := by
      rintro rfl
      obtain ⟨v, hv⟩ := I.cell x c hc
      obtain ⟨u, h1, h2⟩ := hv
      rw [ha] at h1; cases h1
      exact nc _ h2
    rw [upd_ne ne]; exact I.freeC x c hc
  · obtain ⟨h1, h2, h3, h4, h5⟩ := I.pin p hp
    exact ⟨h1, by rw [upd_ne (np p hp)]; exact h2, h3, h4, h5⟩
end L2
namespace DL
open PySem PySem.Spec PyProof.Rows L2
theorem exo_ok {P : Program} {w : World} {H : Hp} {h : Heap} {a : Addr} {oe : Obj} {cls : Value} {dd : Option Addr} {vs : Array Value} (e : h.get? a = some oe) (z : Zc cls dd oe) (d : oe.data = .fields vs) : ObjOk P w H h a (ExO a cls dd) :=
  ⟨⟨oe, e, z, vs, d⟩, ⟨oe, e⟩, fun _ _ ⟨o, x1, x2, x3⟩ st => ⟨o, st _ x1, x2, x3⟩⟩
/-- a clause: its class, the name's slot, what its suite does -/
abbrev Cl := Value × Option Nat × TS
def sgo (i : Option Nat) (x : Option V) (σ : L2.St) : L2.St := match i with
  | some j => σ.set j x
  | none => σ
/-- what the clauses want of what is raised -/
def wCl (K : Fr) (Wo : WX) (D : Ends) : List Cl → WX
  | [] => Wo
  | (c, i, ts) :: r => fun cls d σ H => ∃ b, PySem.W.exmOne K cls c = some b ∧
      (b = true → ∀ a, H a = none → ts { nx := fun s' H' => D.nx (sgo i none s') H', rt := D.rt, bk := fun s' H' => D.bk (sgo i none s') H', ct := fun s' H' => D.ct (sgo i none s') H' } (sgo i (some (.ref a)) σ) (upd H a (ExO a cls d))) ∧ (b = false → wCl K Wo D r cls d σ H)
inductive ClOk (X : Cx) : List ExceptHandler → List Cl → Prop
  | nil : ClOk X [] []
  | as_ {x n : Str} {i : Nat} {c : Value} {ts : TS} {s0 : Stmt} {su : List Stmt} {p p' : Pos} {hs : List ExceptHandler} {l : List Cl} (hc : Names X x c) (hi : X.N[i]? = some n) (hl : X.env.kindOf n = some .local)
      (su_ok : ∀ (a : Addr) (pn : List (Addr × Obj)), PSs (X.suite a pn) (s0 :: su) ts) (r : ClOk X hs l) : ClOk X (.ExceptHandler (some (.Name x p)) (some n) (s0 :: su) p' :: hs) ((c, some i, ts) :: l)
  | only {x : Str} {c : Value} {ts : TS} {s0 : Stmt} {su : List Stmt} {p p' : Pos} {hs : List ExceptHandler} {l : List Cl} (hc : Names X x c)
      (su_ok : ∀ (a : Addr) (pn : List (Addr × Obj)), PSs (X.suite a pn) (s0 :: su) ts) (r : ClOk X hs l) : ClOk X (.ExceptHandler (some (.Name x p)) none (s0 :: su) p' :: hs) ((c, none, ts) :: l)
theorem inv_suite {X : Cx} {pins : List (Addr × Obj)} {σ : L2.St} {H : Hp} {s : Shared} (I : L2.Inv X pins σ H s) (a : Addr) : L2.Inv (X.suite a (X.pn ++ pins)) [] σ H s :=
  ⟨I.ok.suite a _, I.os, I.bare, I.base, I.loc, I.cell, I.free, I.freeC, fun q hq => I.pin q (by simpa using hq), I.hok, I.len⟩
theorem inv_unsuite {X : Cx} {pins pz : List (Addr × Obj)} {σ : L2.St} {H : Hp} {s : Shared} {a : Addr} (I : L2.Inv (X.suite a (X.pn ++ pins)) pz σ H s) (ok : X.Ok) : L2.Inv X pins σ H s :=
  ⟨ok, I.os, I.bare, I.base, I.loc, I.cell, I.free, I.freeC, fun q hq => I.pin q (List.mem_append.mpr (.inl hq)), I.hok, I.len⟩
section
variable {X : Cx} {body : List Stmt} {h0 : ExceptHandler} {hs : List ExceptHandler} {l : List Cl} {pos : Pos} {tb : WX → TS} {Wo : WX}
theorem ps_tryT (hst : X.stack = X.env :: X.outer) (hfr : X.env.frame = some X.env.locals) (hex : X.ex = []) (nd : X.N.Nodup) (tk : Takes X Wo)
    (hb : ∀ (W : WX) (pn : List (Addr × Obj)) (xe : Value → Shared → Prop), Takes (X.tr pn xe) W → PassesOwn (model X.prog X.w) X.A X.env xe → PSs (X.tr pn xe) body (tb W))
    (hh : ClOk X (h0 :: hs) l) : PS X (.Try body (h0 :: hs) [] [] pos) (fun D σ H => tb (wCl X.K Wo D l) D σ H) := by
  refine ⟨fun pins s σ H D I h => ?_⟩
  have ok := I.ok
  have hfs : X.A.frames = some (X.env :: X.outer) := by
    rw [ok.frames, hst]
  refine wpAny_Try_except ?_
  refine wpAny_mono ((hb (wCl X.K Wo D l) (X.pn ++ pins) _ (fun u s1 xx => ?_) PassesOwn.looking).run [] s σ H D (I.toTry _) h) (fun fl s1 q => ?_) (fun _ _ z => z)
  · obtain ⟨a, gr, sJ, pz, τ, G, cl, dd, e0, J0, inG, ups, sk, nG, eos, bare, want⟩ := xx
    subst e0
    have J : L2.Inv X pins τ G sJ := J0.ofTry ok
    rw [hst] at sk
    show wpAny (model X.prog X.w) X.A (noteFrame (.ref a) X.env) _ _ _
    refine Sky.land Zc.steady hfs hfr sk fun hp3 fly3 up3 => ?_
    have J3 : L2.Inv X pins τ G { s1 with heap := hp3 } := J.landed inG fly3.1 (ups.trans up3) eos bare
    obtain ⟨ob3, us3, at3, zc3, dat3⟩ := fly3.there
    have noFr : a ∉ frs (X.env :: X.outer) := fun hm => by
      obtain ⟨_, o', e', nf⟩ := fly3.2.2.1.mem hm
      rw [at3] at e'; cases e'
      exact nf _ dat3
    have nLoc : a ≠ X.env.locals := fun z => noFr (by
      refine List.mem_filterMap.mpr ⟨X.env, List.mem_cons_self, ?_⟩
      rw [hfr, z])
    have nGr : gr.get? a = none := fly3.2.1
    have n0 : X.s_0.heap.get? a = none := by
      cases e : X.s_0.heap.get? a with
      | none => rfl
      | some o =>
        obtain ⟨o', e'⟩ := J.base.there a o e (by rw [hex]; simp)
        have := inG a o' e' (by rw [hst]; exact noFr)
        rw [nGr] at this; cases this
    have npin : ∀ q ∈ X.pn ++ pins, q.1 ≠ a := fun q hq z => by
      obtain ⟨g1, _, g3, g4, _⟩ := J.pin q hq
      have : q.1 ∉ frs (X.env :: X.outer) := by rw [z]; exact noFr
      have := inG _ _ g1 (by rw [hst]; exact this)
      rw [z, nGr] at this; cases this
    have go : ∀ {hs' : List ExceptHandler} {l' : List Cl}, ClOk X hs' l' → wCl X.K Wo D l' cl dd τ G → wpAny (model X.prog X.w) X.A (handleBy (.ref a) X.env hs') (SP X pins D) X.xe { s1 with heap := hp3 } := by
      have tested : ∀ {c : Value} {x : Str} {p : Pos} {b : Bool} {Q : Bool → Shared → Prop} {E : Value → Shared → Prop}, Names X x c → PySem.W.exmOne X.K cl c = some b → True := fun _ _ => trivial
      have nam : ∀ {c : Value} {x : Str} {p : Pos} {Q : Value → Shared → Prop} {E : Value → Shared → Prop}, Names X x c → Q c { s1 with heap := hp3 } → wpAny (model X.prog X.w) (X.A.mark (some (.ref a))) (eval (.Name x p) X.env) Q E { s1 with heap := hp3 } := fun {c x p Q E} hc q => by
        have S3 := inv_suite J3 a
        obtain ⟨g1, g2, g3⟩ := hc
        rcases g3 with g3 | ⟨g3, g4, g5⟩
        · exact ld_glob (X := X.suite a (X.pn ++ pins)) S3 g1 g3 q g2
        · exact ld_blt (X := X.suite a (X.pn ++ pins)) S3 g1 g3 g4 q g5 g2
      have typ : PySem.W.Looks (model X.prog X.w) hp3 (typeOf (.ref a)) cl := fun A Q E s k q => wpAny_typeOf_ref (k _ _ at3) (by
        rw [zc3.1]
        exact q)
      have tracked : ∀ {hp4 : Heap}, HandSPX.FlyingZ gr (X.env :: X.outer) a (Zc cl dd) hp4 → hp3.UpToSlots hp4 → L2.Inv X pins τ (upd G a (ExO a cl dd)) { s1 with heap := hp4 } := fun {hp4} fly4 up4 => by
        have J4 : L2.Inv X pins τ G { s1 with heap := hp4 } := J.landed inG fly4.1 ((ups.trans up3).trans up4) eos bare
        obtain ⟨ob4, us4, at4, zc4, dat4⟩ := fly4.there
        exact J4.track nG at4 n0 nLoc (fun v z => by rw [dat4] at z; cases z) npin (exo_ok at4 zc4 dat4)
      intro hs' l' hk
      induction hk with
      | nil =>
        intro w
        refine wpAny_handleBy_nil ?_
        obtain ⟨_, _, _, oz, uz, tz, _, _, a1, _, a3, a4, _⟩ := id fly3
        unfold PySem.passOn
        refine wpAny_bind (wpAny_field a1 a3 a4 ?_)
        rw [if_neg (by simp : ¬ ((Value.ref tz == Value.none) = true))]
        have fin : wpAny (model X.prog X.w) X.A (setFlight (.ref a) X.env.frame) (fun _ s4 => wpAny (model X.prog X.w) X.A (throw (.ref a) : Sem Flow) (SP X pins D) X.xe s4) X.xe { s1 with heap := hp3 } := by
          rw [hfr]
          refine HandSPX.setFlight_upZ fly3 fun hp4 hz4 up4 => ?_
          refine wpAny_throw (tk _ _ ⟨a, gr, sJ, pins, τ, G, cl, dd, rfl, J, inG, (ups.trans up3).trans up4, ?_, nG, eos, bare, w⟩)
          rw [hst]
          exact .inr (.inr hz4)
        first
          | exact wpAny_bind (wpAny_pure (wpAny_bind fin))
          | exact wpAny_bind fin
      | @as_ x n i c ts s0 su p p' hs2 l2 hc hi hl suok r ih =>
        intro w
        obtain ⟨b, eb, yes, no⟩ := w
        refine wpAny_handleBy_cons (codeAny_handlers_test ?_) (fun q => nomatch q)
        refine nam hc ((PySem.W.exm_one (M := model X.prog X.w) J3.kIn typ eb).here ?_)
        cases b with
        | false => exact ih (no rfl)
        | true =>
          refine codeAny_handlers_suite_as (HandSPX.lands_againZ fly3 fun hp4 fly4 up4 => ?_)
          have J4 := tracked fly4 up4
          refine store_ok (X := X.suite a (X.pn ++ pins)) (v := .ref a) (inv_suite J4 a) nd hi (.inl hl) rfl (fun s5 S5 => ?_) (.inr hl)
          refine wpAny_mono ((suok a (X.pn ++ pins)).run [] s5 _ _ _ S5 (yes rfl a nG)) (fun fl s6 q => ?_) (fun _ _ z => z.elim)
          cases fl with
          | next =>
            obtain ⟨τ6, H6, S6, q6⟩ := q
            exact gone_ok (inv_unsuite S6 ok) nd hi hl fun s7 J7 => ⟨_, _, J7, q6⟩
          | brk =>
            obtain ⟨τ6, H6, S6, q6⟩ := q
            exact gone_ok (inv_unsuite S6 ok) nd hi hl fun s7 J7 => ⟨_, _, J7, q6⟩
          | cont =>
            obtain ⟨τ6, H6, S6, q6⟩ := q
            exact gone_ok (inv_unsuite S6 ok) nd hi hl fun s7 J7 => ⟨_, _, J7, q6⟩
          | ret u =>
            obtain ⟨v6, τ6, H6, S6, r6, q6⟩ := q
            exact gone_ok (inv_unsuite S6 ok) nd hi hl fun s7 J7 => ⟨_, _, _, J7, r6, q6⟩
      | @only x c ts s0 su p p' hs2 l2 hc suok r ih =>
        intro w
        obtain ⟨b, eb, yes, no⟩ := w
        refine wpAny_handleBy_cons (codeAny_handlers_test ?_) (fun q => nomatch q)
        refine nam hc ((PySem.W.exm_one (M := model X.prog X.w) J3.kIn typ eb).here ?_)
        cases b with
        | false => exact ih (no rfl)
        | true =>
          refine codeAny_handlers_suite (HandSPX.lands_againZ fly3 fun hp4 fly4 up4 => ?_)
          have J4 := tracked fly4 up4
          refine wpAny_mono ((suok a (X.pn ++ pins)).run [] _ _ _ _ (inv_suite J4 a) (yes rfl a nG)) (fun fl s6 q => ?_) (fun _ _ z => z.elim)
          cases fl with
          | next =>
            obtain ⟨τ6, H6, S6, q6⟩ := q
            exact ⟨_, _, inv_unsuite S6 ok, q6⟩
          | brk =>
            obtain ⟨τ6, H6, S6, q6⟩ := q
            exact ⟨_, _, inv_unsuite S6 ok, q6⟩
          | cont =>
            obtain ⟨τ6, H6, S6, q6⟩ := q
            exact ⟨_, _, inv_unsuite S6 ok, q6⟩
          | ret u =>
            obtain ⟨v6, τ6, H6, S6, r6, q6⟩ := q
            exact ⟨_, _, _, inv_unsuite S6 ok, r6, q6⟩
    exact go hh want
  · cases fl with
    | next =>
      obtain ⟨τ, G, J, z⟩ := q
      exact wpAny_execs_nil ⟨τ, G, J.ofTry ok, z⟩
    | brk =>
      obtain ⟨τ, G, J, z⟩ := q
      exact ⟨τ, G, J.ofTry ok, z⟩
    | cont =>
      obtain ⟨τ, G, J, z⟩ := q
      exact ⟨τ, G, J.ofTry ok, z⟩
    | ret u =>
      obtain ⟨v, τ, G, J, r, z⟩ := q
      exact ⟨v, τ, G, J.ofTry ok, r, z⟩
end
end DL
namespace DL
open PySem PySem.Spec PyProof.Rows L2
section
variable {K : Fg} {B : Bs} {F H : Hp} {σ : L2.St} {env : En}
theorem Own.noxd {p : Addr} {d : D} {fs : List (Str × V)} (h : Own K F H p d) (e : H p = Option.some (HO.xd fs)) : False := by
  cases d with
  | list ds => obtain ⟨vs, e', _⟩ := h; rw [e] at e'; cases e'
  | dict es => rcases h with ⟨_, e', _⟩ | ⟨_, _, _, e', _⟩ | ⟨_, _, _, _, _, _, _, e', _⟩ <;> (rw [e] at e'; cases e')
  | _ => exact h.elim
/-- a name is no more -/
theorem Sl.unset (S : Sl K B F H σ env) {i : Nat} (hi : i < env.length) (np : ∀ d, ¬ IsPw env i d) : Sl K B F H (σ.set i none) (env.set i .un) := by
  have hs : i < σ.length := S.len ▸ hi
  have ow' : ∀ {j : Nat} {x : D}, IsOw (env.set i .un) j x → j ≠ i ∧ IsOw env j x := fun {j x} q => by
    rcases q with q | q
    · rcases set_other hi q with ⟨_, z⟩ | ⟨a, b⟩
      · cases z
      · exact ⟨a, .inl b⟩
    · rcases set_other hi q with ⟨_, z⟩ | ⟨a, b⟩
      · cases z
      · exact ⟨a, .inr b⟩
  refine ⟨S.fh, by simpa using S.len, fun j x q => ?_, fun j x q => ?_, fun j k x y p a b c d => ?_, fun q hq => ?_, S.f0, S.nw, S.kp, S.lc, fun q hq => ?_, S.lk, fun j s y q => by
    obtain ⟨hj, q⟩ := set_tr hi (fun _ _ => ⟨(by intro z; cases z), (by intro z; cases z)⟩) q
    rw [sset_other hj]; exact S.tr j s y q, S.mr, S.gv, S.kt, S.tb⟩
  · rcases set_other hi q with ⟨rfl, z⟩ | ⟨a, b⟩
    · cases z
    · rw [sset_other a]
      exact S.fz j x b
  · obtain ⟨hj, q⟩ := ow' q
    rw [sset_other hj]
    exact S.own j x q
  · obtain ⟨hj, a⟩ := ow' a
    obtain ⟨hk, b⟩ := ow' b
    rw [sset_other hj] at c
    rw [sset_other hk] at d
    exact S.ap j k x y p a b c d
  · obtain ⟨⟨x, hx⟩, h2⟩ := S.pm q hq
    have : q.1 ≠ i := by
      rintro z
      rw [z] at hx
      exact np x hx
    unfold IsPw
    rw [List.getElem?_set_ne (Ne.symm this), sset_other this]
    exact ⟨⟨x, hx⟩, h2⟩
  · obtain ⟨g1, g2, g3, g4⟩ := S.hx q hq
    exact ⟨g1, g2, g3, fun j x h => by
      obtain ⟨hj, h⟩ := ow' h
      rw [sset_other hj]
      exact g4 j x h⟩
/-- what is raised, caught: an object of the others -/
theorem Sl.caught (S : Sl K B F H σ env) {x : Ex} {cls : Value} {dd : Option Addr} {a : Addr} (hx : ExOk K B.H0 B.X F H x cls dd) (na : H a = none) :
    ∃ F2, Sub F F2 ∧ Sl K B F2 (upd H a (ExO a cls dd)) σ env ∧ Dt K F2 (.ref a) (excD x.c x.fld) := by
  obtain ⟨⟨C, m, rfl⟩, h2⟩ := hx
  obtain ⟨c, fld⟩ := x
  have S1 := S.new (o := ExO a (.ref C) dd) na
  have s1 := S.subNew (o := ExO a (.ref C) dd) na
  cases fld with
  | none =>
    have h2 : dd = none := h2
    subst h2
    exact ⟨_, s1, S1, .exc m upd_same⟩
  | some q =>
    obtain ⟨f, d⟩ := q
    obtain ⟨p, v, rfl, n0, nx, nF, hp, hd⟩ := h2
    have ne : p ≠ a := ne_of_none hp na
    have e1 : upd H a (ExO a (.ref C) (some p)) p = some (.xd [(f, v)]) := by rw [upd_ne ne]; exact hp
    have e2 : upd F a (ExO a (.ref C) (some p)) p = none := by rw [upd_ne ne]; exact nF
    have S2 := S1.froze e1 e2 n0 (fun i d o z => by
      obtain ⟨q, g1, _, g3, _⟩ := S1.own i d o
      rw [z] at g1; cases g1
      exact g3.noxd e1) nx rfl
    have s2 : Sub (upd F a (ExO a (.ref C) (some p))) (upd (upd F a (ExO a (.ref C) (some p))) p (.xd [(f, v)])) := Sub.new e2
    exact ⟨_, s1.trans s2, S2, .exf m (by rw [upd_ne (Ne.symm ne)]; exact upd_same) upd_same (hd.mono (s1.trans s2))⟩
end
/-- which classes a clause takes -/
abbrev Mt := Str → Option Bool
def cIn : Option Nat → Ex → En → Option En
  | some i, x, e => put i (.fz (excD x.c x.fld)) e
  | none, _, e => some e
def unS (i : Nat) (e : En) : Option En := put i .un e
def cOut : Option Nat → Rs → Option Rs
  | some i, .nx e => (unS i e).bind fun e => some (.nx e)
  | some i, .bk e => (unS i e).bind fun e => some (.bk e)
  | some i, .ct e => (unS i e).bind fun e => some (.ct e)
  | none, .nx e => some (.nx e)
  | none, .bk e => some (.bk e)
  | none, .ct e => some (.ct e)
  | _, .rt d e => some (.rt d e)
  | _, .rn d e => some (.rn d e)
  | _, .rm s d e => some (.rm s d e)
  | _, .xx _ _ => none
abbrev Cd := Mt × Option Nat × Sf
def pick : List Cd → Ex → En → Option Rs
  | [], x, e => some (.xx x e)
  | (m, i, f) :: r, x, e => (m x.c).bind fun b => if b = true then (cIn i x e).bind fun e1 => (f e1).bind fun r => cOut i r else pick r x e
def sTry (b : Sf) (cs : List Cd) : Sf := fun env => (b env).bind fun r => match r with
  | .xx x e => pick cs x e
  | r => some r
section
variable {X : Cx} {Tb : TbT}
/-- the class named is told by the table m -/
def MtOk (X : Cx) (m : Mt) (v : Value) : Prop := ∀ c b C, m c = some b → X.mg c = some (.ref C) → PySem.W.exmOne X.K (.ref C) v = some b
inductive CdOk (X : Cx) (Tb : TbT) : List ExceptHandler → List Cd → Prop
  | nil : CdOk X Tb [] []
  | as_ {x n : Str} {i : Nat} {c : Value} {m : Mt} {f : Sf} {s0 : Stmt} {su : List Stmt} {p p' : Pos} {hs : List ExceptHandler} {l : List Cd} (hc : Names X x c) (hm : MtOk X m c) (hi : X.N[i]? = some n) (hl : X.env.kindOf n = some .local)
      (su_ok : ∀ (a : Addr) (pn : List (Addr × Obj)) (wh : Wh), PSs (X.suite a pn) (s0 :: su) (tS (X.kg Tb) wh f)) (r : CdOk X Tb hs l) : CdOk X Tb (.ExceptHandler (some (.Name x p)) (some n) (s0 :: su) p' :: hs) ((m, some i, f) :: l)
  | only {x : Str} {c : Value} {m : Mt} {f : Sf} {s0 : Stmt} {su : List Stmt} {p p' : Pos} {hs : List ExceptHandler} {l : List Cd} (hc : Names X x c) (hm : MtOk X m c)
      (su_ok : ∀ (a : Addr) (pn : List (Addr × Obj)) (wh : Wh), PSs (X.suite a pn) (s0 :: su) (tS (X.kg Tb) wh f)) (r : CdOk X Tb hs l) : CdOk X Tb (.ExceptHandler (some (.Name x p)) none (s0 :: su) p' :: hs) ((m, none, f) :: l)
def wh0 : Wh := ⟨fun _ _ _ _ => False⟩
/-- .. as the clauses of DNh, with what they take -/
inductive CdR (X : Cx) (Tb : TbT) : List Cd → List Cl → Prop
  | nil : CdR X Tb [] []
  | cons {m : Mt} {i : Option Nat} {f : Sf} {c : Value} {cs : List Cd} {l : List Cl} : MtOk X m c → CdR X Tb cs l → CdR X Tb ((m, i, f) :: cs) ((c, i, tS (X.kg Tb) wh0 f) :: l)
theorem CdOk.cl {hs : List ExceptHandler} {cs : List Cd} (h : CdOk X Tb hs cs) : ∃ l, ClOk X hs l ∧ CdR X Tb cs l := by
  induction h with
  | nil => exact ⟨[], .nil, .nil⟩
  | as_ hc hm hi hl su _ ih =>
    obtain ⟨l, h1, h2⟩ := ih
    exact ⟨_, .as_ hc hi hl (fun a pn => su a pn wh0) h1, .cons hm h2⟩
  | only hc hm su _ ih =>
    obtain ⟨l, h1, h2⟩ := ih
    exact ⟨_, .only hc (fun a pn => su a pn wh0) h1, .cons hm h2⟩
theorem EndOk.wh {K : Fg} {wh wh' : Wh} {B : Bs} {F : Hp} {E : Ends} {r : Rs} (h : EndOk K wh B F E r) (n : ∀ x e, r ≠ .xx x e) : EndOk K wh' B F E r := by
  cases r <;> first | exact h | exact absurd rfl (n _ _)
theorem put_un {K : Fg} {B : Bs} {F H : Hp} {σ : L2.St} {e e' : En} {i : Nat} (S : Sl K B F H σ e) (h : unS i e = some e') : Sl K B F H (σ.set i none) e' := by
  obtain ⟨h1, h2, rfl⟩ := put_inv h
  exact S.unset h1 h2
theorem endOut {K : Fg} {wh : Wh} {B : Bs} {F : Hp} {E : Ends} {i : Option Nat} {r r' : Rs} (h : cOut i r = some r') (k : EndOk K wh B F E r') :
    EndOk K wh0 B F { nx := fun s' H' => E.nx (sgo i none s') H', rt := E.rt, bk := fun s' H' => E.bk (sgo i none s') H', ct := fun s' H' => E.ct (sgo i none s') H' } r := by
  cases i with
  | none => cases r <;> first | (cases h; exact k) | cases h
  | some i =>
    cases r with
    | nx e =>
      obtain ⟨e1, q, h⟩ := bd h
      cases h
      exact fun σ' F' H' S s => k _ F' H' (put_un S q) s
    | bk e =>
      obtain ⟨e1, q, h⟩ := bd h
      cases h
      exact fun σ' F' H' S s => k _ F' H' (put_un S q) s
    | ct e =>
      obtain ⟨e1, q, h⟩ := bd h
      cases h
      exact fun σ' F' H' S s => k _ F' H' (put_un S q) s
    | rt d e => cases h; exact k
    | rn d e => cases h; exact k
    | rm s d e => cases h; exact k
    | xx x e => cases h
theorem pick_ok {wh : Wh} {B : Bs} {F : Hp} {E : Ends} {x : Ex} {e : En} {r : Rs} {cs : List Cd} {l : List Cl} (hr : CdR X Tb cs l) (h : pick cs x e = some r) (k : EndOk (X.kg Tb) wh B F E r)
    {cls : Value} {dd : Option Addr} {σ' : L2.St} {F' H' : Hp} (S : Sl (X.kg Tb) B F' H' σ' e) (s : Sub F F') (hx : ExOk (X.kg Tb) B.H0 B.X F' H' x cls dd) : wCl X.K wh.W E l cls dd σ' H' := by
  induction hr with
  | nil =>
    cases h
    exact k cls dd σ' F' H' S s hx
  | @cons m i f c cs l hm hr ih =>
    obtain ⟨b, eb, h⟩ := bd h
    obtain ⟨⟨C, mc, rfl⟩, _⟩ := id hx
    refine ⟨b, hm _ _ _ eb mc, fun hb a na => ?_, fun hb => ?_⟩
    · subst hb
      rw [if_pos rfl] at h
      obtain ⟨e1, q1, h⟩ := bd h
      obtain ⟨r1, q2, h⟩ := bd h
      obtain ⟨F2, s2, S2, hd⟩ := S.caught hx na
      have k2 : EndOk (X.kg Tb) wh0 B F2 _ r1 := (endOut h k).mono (s.trans s2)
      cases i with
      | none =>
        cases q1
        exact ⟨B, F2, e, r1, S2, q2, k2⟩
      | some i =>
        obtain ⟨h1, h2, rfl⟩ := put_inv q1
        exact ⟨B, F2, _, r1, S2.set h1 h2 hd, q2, k2⟩
    · subst hb
      rw [if_neg Bool.false_ne_true] at h
      exact ih h
theorem dS_try {wh : Wh} {b : Sf} {cs : List Cd} {body : List Stmt} {h0 : ExceptHandler} {hs : List ExceptHandler} {pos : Pos} (hst : X.stack = X.env :: X.outer) (hfr : X.env.frame = some X.env.locals) (hex : X.ex = []) (nd : X.N.Nodup) (tk : Takes X wh.W)
    (hb : ∀ (W : WX) (pn : List (Addr × Obj)) (xe : Value → Shared → Prop), Takes (X.tr pn xe) W → PassesOwn (model X.prog X.w) X.A X.env xe → PSs (X.tr pn xe) body (tS (X.kg Tb) ⟨W⟩ b))
    (hh : CdOk X Tb (h0 :: hs) cs) : PS X (.Try body (h0 :: hs) [] [] pos) (tS (X.kg Tb) wh (sTry b cs)) := by
  obtain ⟨l, h1, h2⟩ := hh.cl
  refine PSi (ps_tryT hst hfr hex nd tk hb h1) fun E σ H ⟨B, F, env, r, S, ef, k⟩ => ?_
  obtain ⟨r0, q, ef⟩ := bd ef
  refine ⟨B, F, env, r0, S, q, ?_⟩
  cases r0 with
  | xx x e => exact fun cls dd σ' F' H' S' s' hx => pick_ok h2 ef k S' s' hx
  | nx e => cases ef; exact k
  | bk e => cases ef; exact k
  | ct e => cases ef; exact k
  | rt d e => cases ef; exact k
  | rn d e => cases ef; exact k
  | rm s d e => cases ef; exact k
end
end DL
namespace DL
open PySem PySem.W PySem.Spec PySem.Calls PyProof.Rows
end DL
namespace DL
open PySem PySem.Spec PyProof.Rows L2
theorem Lk.at_ {F H : Hp} {a : Addr} {o : HO} (l : Lk F H) (h : F a = some o) (n : ¬ IsDct o) (m : Mk o = false) : H a = some o := by
  rcases l a o h with g | ⟨g, _⟩ | ⟨g, _⟩
  · exact g
  · exact absurd g n
  · rw [m] at g; cases g
/-- of an exception's class by the table m; of None -/
def gIsX (mn : Option Bool) (m : Mt) : D → Option D
  | .none => mn.map .bool
  | .dict ((.bool false, .str c) :: _) => (m c).map .bool
  | _ => none
section
variable {K : Fg} {F H : Hp}
theorem Bv.exD {v : V} {c : Str} {z : List (D × D)} (h : Bv K F H v (.dict ((.bool false, .str c) :: z))) : Dt K F v (.dict ((.bool false, .str c) :: z)) := by
  refine h.dt fun p ho => ?_
  rcases ho with ⟨kvs, _, t⟩ | ⟨_, _, e, _⟩ | ⟨_, _, _, _, _, e, _⟩
  · obtain ⟨k, q⟩ := t.key _ List.mem_cons_self
    cases k <;> cases q
  · cases e
  · cases e
end
section
variable {X : Cx} {Tb : TbT} {e c : Expr} {p pos : Pos} {o : Opd} {mn : Option Bool} {m : Mt}
/-- the classes of a written tuple -/
inductive ClsA (X : Cx) : List Expr → List V → List Value → Prop
  | nil : ClsA X [] [] []
  | cons {c : Expr} {cs : List Expr} {v : V} {vs : List V} {u : Value} {us : List Value} : PE X c (tC v) → (∀ z, RelV v z → z = u) → starEach (c :: cs) X.env = (false, eval c X.env) :: starEach cs X.env → ClsA X cs vs us → ClsA X (c :: cs) (v :: vs) (u :: us)
theorem ClsA.vals {cs : List Expr} {vs : List V} {us : List Value} (h : ClsA X cs vs us) : ∀ ws, Vals vs ws → ws = us := by
  induction h with
  | nil => intro ws r; cases r; rfl
  | cons _ h _ _ ih => intro ws r; cases r with | cons a b => rw [h _ a, ih _ b]
def gXf (f : Str) (ok : Str → Bool) : D → Option D
  | .dict [(.bool false, .str c), (.str g, d)] => if (decide (g = f) && ok c) = true then some d else none
  | _ => none
def tXfT (K : Fr) (n : Str) (te : TE) : TE := fun σ H Q => te σ H fun x H1 => ∃ a C dd fs v, x = .ref a ∧ H1 a = some (ExO a (.ref C) (some dd)) ∧ XfC K C ∧ PySem.W.findIn K (.ref C) n = some none ∧ H1 dd = some (.xd fs) ∧ fs.lookup n = some v ∧ Q v H1
theorem pe_xfT {n : Str} {te : TE} (he : PE X e te) (hb : attributeBase e n X.env (eval e X.env) = eval e X.env := by rfl) : PE X (.Attribute e n pos) (tXfT X.K n te) := by
  refine ⟨fun pins s σ H Q I h => attr_of hb (thn (he.run pins s σ H _ I h) fun u s1 z => ?_)⟩
  obtain ⟨x, H1, I1, rx, a, C, dd, fs, v, rfl, ha, T, hno, hd, l, q⟩ := z
  obtain rfl : u = Value.ref a := rx
  obtain ⟨⟨oe, e1, ⟨e2, e3⟩, vs, e4⟩, _⟩ := I1.hok a _ ha
  obtain ⟨mA, ns, hr⟩ : ObjOk X.prog X.w H1 s1.heap dd (.xd fs) := I1.hok dd _ hd
  obtain ⟨od, ho, hl⟩ := lookIn_ns ns
  obtain ⟨u', hu, ru⟩ := RelO.some_of (v := v) (o := mA n) (by
    have := hr n
    rw [l] at this
    exact this)
  have nc : PySem.W.notCls oe = true := by
    unfold PySem.W.notCls
    rw [e4]
  have J : PySem.W.InstAt s1.heap a oe C (some od) := ⟨e1, e2, nc, by rw [e3]; exact ho⟩
  exact HandSPX.exc_get I1.kIn J T.ga T.gg T.exC (PySem.W.findObj_own T.hdC hno rfl (by rw [hl, hu])) (handed_of ru) ⟨v, H1, I1.tok _, ru, q⟩
theorem de_xf {n : Str} {ok : Str → Bool} (ha : PE X e (tO (X.kg Tb) o)) (hT : ∀ c C, ok c = true → X.mg c = some (.ref C) → XfC X.K C ∧ PySem.W.findIn X.K (.ref C) n = some none) (hb : attributeBase e n X.env (eval e X.env) = eval e X.env := by rfl) :
    PE X (.Attribute e n pos) (tD (X.kg Tb) (op1 (gXf n ok) o)) := PEi (pe_xfT ha hb) fun σ H Q ⟨B, F, env, d, env', S, ef, k⟩ => by
  obtain ⟨⟨u, e1⟩, q1, ef⟩ := bd ef
  obtain ⟨x, q2, ef⟩ := bd ef
  obtain ⟨d', q3, ef⟩ := bd ef
  cases ef
  refine ⟨B, F, env, u, _, S, q1, fun v F1 H1 S1 s1 h1 => ?_⟩
  unfold gXf at q3
  split at q3
  · rename_i c g d2
    split at q3
    · rename_i hz
      cases q3
      simp only [Bool.and_eq_true, decide_eq_true_eq] at hz
      obtain ⟨rfl, hz⟩ := hz
      have hd := (h1.bv S1 q2).exD
      cases hd with
      | dk e t =>
        obtain ⟨k, q⟩ := t.key _ List.mem_cons_self
        cases k <;> cases q
      | exf mc ea eb t =>
        obtain ⟨t1, t2⟩ := hT _ _ hz mc
        exact ⟨_, _, _, _, _, rfl, S1.fh.at_ ea (fun z => z) rfl, t1, t2, S1.fh.at_ eb (fun z => z) rfl, by simp [List.lookup], k _ F1 H1 S1 s1 t⟩
    · cases q3
  · cases q3
def sRaise0 (x : Str) : Sf := fun env => some (.xx ⟨x, none⟩ env)
end
end DL
namespace DL
open PySem PySem.Spec PyProof.Rows L2
/-- an exception's class with its own __init__, to be raised -/
structure GotE (P : Program) (w : World) (K : Fr) (mg : Str → Option Value) (base : Heap) (k : Nat) (c fld : Str) : Prop where
  ex : ∃ (C fI : Addr) (fd : FuncData) (ps : List Str), mg c = some (.ref C) ∧ OexC K C ∧ PySem.W.findIn K (.ref C) "__init__" = some (some (.ref fI)) ∧ PySem.W.typeIn K (.ref fI) = some (.type "function") ∧ FnOk P w K mg base CX0 k fI fd ps (spI C fld) ∧ Binds K fd ps []
/-- .. without one -/
structure GotE0 (K : Fr) (mg : Str → Option Value) (c : Str) : Prop where
  ex : ∃ C : Addr, mg c = some (.ref C) ∧ PySem.W.excIn K C He.veBase "ValueError.__new__" = true ∧ PySem.W.keepIn K (.ref C) = true ∧ PySem.W.subIn K (.ref C) (.type "BaseException") = some true ∧ PySem.W.typeIn K (.ref C) = some (.type "type")
/-- a def that may raise -/
structure GotX (P : Program) (w : World) (K : Fr) (mg : Str → Option Value) (base : Heap) (k : Nat) (x : Str) (ps : List Str) (sp : Sp) : Prop where
  ex : ∃ (f : Addr) (fd : FuncData), FnOk P w K mg base (L2.CX P w) k f fd ps sp ∧ mg x = some (.ref f) ∧ PySem.W.keepIn K (.ref f) = true ∧ Binds K fd ps []
section
variable {X : Cx} {Tb : TbT} {x : Str} {p pos p3 : Pos} {e : Expr} {es : List Expr} {ps : List Str} {k j : Nat} {fl : List Bool} {g : List D → Option ((D ⊕ Ex) × List D)} {os : List Opd} {wh : Wh}
theorem de_callXG (tk : Takes X wh.W) (G : GotX X.prog X.w X.K X.mg X.base k x ps (spX (X.kg Tb) fl .fz g)) (hr : Room j X.A) (hg : Gl X x) (ha : PA X (e :: es) (tAr (X.kg Tb) os)) (hj : k ≤ j := by decide) (hdb : (x == ("__debug__" : Str)) = false := by decide) (he : starEach (e :: es) X.env = (false, eval e X.env) :: starEach es X.env := by rfl) (hpl : (backTo pos (starEach es X.env)).any (·.1) = false := by rfl) :
    PE X (.Call (.Name x p) (e :: es) [] pos) (tX (X.kg Tb) wh (eCallX fl g os)) := by
  obtain ⟨f, fd, F, m, kp, b⟩ := G.ex
  exact de_callX tk F (hr.mono hj) hg m kp b ha hdb he hpl
theorem de_callTG (G : GotX X.prog X.w X.K X.mg X.base k x ps (spX (X.kg Tb) fl .fz g)) (hr : Room j X.A) (hg : Gl X x) (ha : PA X (e :: es) (tAr (X.kg Tb) os)) (hj : k ≤ j := by decide) (hdb : (x == ("__debug__" : Str)) = false := by decide) (he : starEach (e :: es) X.env = (false, eval e X.env) :: starEach es X.env := by rfl) (hpl : (backTo pos (starEach es X.env)).any (·.1) = false := by rfl) :
    PE X (.Call (.Name x p) (e :: es) [] pos) (tD (X.kg Tb) (eCall fl (told g) os)) := by
  obtain ⟨f, fd, F, m, kp, b⟩ := G.ex
  exact de_callT F (hr.mono hj) hg m kp b ha hdb he hpl
theorem dS_raiseG {fld : Str} {f : Df} (hc : X.calm = true) (tk : Takes X wh.W) (G : GotE X.prog X.w X.K X.mg X.base k x fld) (hr : Room j X.A) (hg : Gl X x) (he : PE X e (tD (X.kg Tb) f)) (hj : k + 1 ≤ j := by decide) (hdb : (x == ("__debug__" : Str)) = false := by decide) (hse : starEach [e] X.env = (false, eval e X.env) :: starEach [] X.env := by rfl) :
    PS X (.Raise (some (.Call (.Name x p) [e] [] pos)) none p3) (tS (X.kg Tb) wh (sRaise x fld f)) := by
  obtain ⟨C, fI, fd, ps, m, T, iC, tI, F1, b⟩ := G.ex
  exact dS_raise hc tk T iC tI F1 (hr.mono hj) b pass0 hg m he hdb hse
end
def mt (l : List (Str × Bool)) : Mt := fun c => l.lookup c
section
variable {X : Cx}
theorem mtOk_nil {v : Value} : MtOk X (mt []) v := fun _ _ _ h => nomatch h
theorem mtOk_cons {v : Value} {n : Str} {b : Bool} {l : List (Str × Bool)} (h : ∀ C, X.mg n = some (.ref C) → PySem.W.exmOne X.K (.ref C) v = some b) (r : MtOk X (mt l) v) : MtOk X (mt ((n, b) :: l)) v := fun c b' C e m => by
  unfold mt at e
  rw [List.lookup_cons] at e
  split at e
  · rename_i hq
    cases e
    have := beq_iff_eq.mp hq
    subst this
    exact h C m
  · exact r c b' C e m
def okL (l : List Str) : Str → Bool := fun c => l.contains c
theorem okL_of {l : List Str} {P : Addr → Prop} (h : ∀ c ∈ l, ∀ C, X.mg c = some (.ref C) → P C) : ∀ c C, okL l c = true → X.mg c = some (.ref C) → P C := fun c C e m => h c (by simpa [okL] using e) C m
theorem mkL_nil {P : Addr → Prop} : ∀ c ∈ ([] : List Str), ∀ C, X.mg c = some (.ref C) → P C := fun _ z => nomatch z
theorem mkL_cons {P : Addr → Prop} {n : Str} {l : List Str} (h : ∀ C, X.mg n = some (.ref C) → P C) (r : ∀ c ∈ l, ∀ C, X.mg c = some (.ref C) → P C) : ∀ c ∈ n :: l, ∀ C, X.mg c = some (.ref C) → P C := fun c hc => by
  rcases List.mem_cons.mp hc with rfl | hc
  · exact h
  · exact r c hc
end
theorem at_cls {mg : Str → Option Value} {n : Str} {A : Addr} {P : Addr → Prop} (m : mg n = some (.ref A)) (h : P A) : ∀ C, mg n = some (.ref C) → P C := fun C e => by
  rw [m] at e; cases e; exact h
/-- a method of a class, by its place -/
def mth (st : Stmt) (j : Nat) : Stmt := match st with
  | .ClassDef _ _ _ body _ _ _ _ _ _ _ => body.getD j (.Pass ⟨0, 0, 0, 0⟩)
  | _ => .Pass ⟨0, 0, 0, 0⟩
def oexB (K : Fr) (C : Addr) : Bool := (match K.lookup C with
  | some ⟨.type "type", _, .cls cd, sl⟩ => (match cd.mro, sl.toList with
    | .ref C' :: bm, [_, _, _, _, some (.builtin n), _] => C' == C && (n == "ValueError.__new__" && (!cd.hasDel && (cd.hasDict && PySem.HandSPX.refsVE bm)))
    | _, _ => false)
  | _ => false) && (decide (PySem.W.findIn K (.ref C) "__setattr__" = some (some (.builtin "object.__setattr__"))) && (decide (PySem.W.subIn K (.ref C) (.type "BaseException") = some true) && (decide (PySem.W.typeIn K (.ref C) = some (.type "type")) && PySem.W.keepIn K (.ref C))))
theorem oexB_ok {K : Fr} {C : Addr} (h : oexB K C = true) : OexC K C := by
  unfold oexB at h
  obtain ⟨h0, h⟩ := He.ba h
  obtain ⟨h1, h⟩ := He.ba h
  obtain ⟨h2, h⟩ := He.ba h
  obtain ⟨h3, h4⟩ := He.ba h
  refine ⟨?_, of_decide_eq_true h1, of_decide_eq_true h2, of_decide_eq_true h3, h4⟩
  split at h0
  · rename_i dd cd sl ho
    split at h0
    · rename_i C' bm k0 k1 k2 k3 n k5 hm hs
      simp only [Bool.and_eq_true, beq_iff_eq, Bool.not_eq_true'] at h0
      obtain ⟨rfl, rfl, g1, g2, g3⟩ := h0
      obtain ⟨nm, bs, mro, ns, qn, hd, sn, sub, ab, col, del⟩ := cd
      dsimp only at hm g1 g2
      subst hm g1 g2
      obtain ⟨l⟩ := sl
      simp only at hs
      subst hs
      exact ⟨nm, qn, ns, bs, bm, sn, sub, ab, col, dd, k0, k1, k2, k3, k5, ho, g3⟩
    · cases h0
  · cases h0
def baseB (K : Fr) (B : Addr) : Bool := decide (PySem.W.specialIn K (.ref B) "__getattribute__" = some (some (.builtin "type.__getattribute__"))) && (PySem.W.readsIn K B (.type "type") && (match PySem.W.findCls K (.ref B) (.type "type") "__init__" with
  | some (.val (.builtin n)) => n == "ValueError.__init__"
  | _ => false))
theorem baseB_ok {K : Fr} {B : Addr} (h : baseB K B = true) : BaseC K B := by
  unfold baseB at h
  obtain ⟨h1, h⟩ := He.ba h
  obtain ⟨h2, h3⟩ := He.ba h
  refine ⟨of_decide_eq_true h1, h2, ?_⟩
  split at h3
  · rename_i n e
    rw [e, beq_iff_eq.mp h3]
  · cases h3
def initB (K : Fr) (C : Addr) : Bool := decide (PySem.W.findIn K (.ref C) "__init__" = some (some (.ref (He.ma K C "__init__")))) && decide (PySem.W.typeIn K (.ref (He.ma K C "__init__")) = some (.type "function"))
theorem initB_ok {K : Fr} {C : Addr} (h : initB K C = true) : PySem.W.findIn K (.ref C) "__init__" = some (some (.ref (He.ma K C "__init__"))) ∧ PySem.W.typeIn K (.ref (He.ma K C "__init__")) = some (.type "function") := by
  obtain ⟨h1, h2⟩ := He.ba h
  exact ⟨of_decide_eq_true h1, of_decide_eq_true h2⟩
def exmB (K : Fr) (t c : Value) (b : Bool) : Bool := decide (PySem.W.exmOne K t c = some b)
def noatB (K : Fr) (C : Addr) (f : Str) : Bool := decide (PySem.W.findIn K (.ref C) f = some none)
def asZ (g : Addr → Option Obj) (n : Nat) : List Addr := He.asD g n ++ [cStatics]
abbrev frZ (g : Addr → Option Obj) (n : Nat) : Fr := He.frT g (asZ g n)
theorem tabs_nil {H : Hp} : LamX.Tabs [] H := fun _ z => nomatch z
theorem xfa_ok {K : Fr} {C : Addr} {f : Str} (h : (xfB K C && noatB K C f) = true) : XfC K C ∧ PySem.W.findIn K (.ref C) f = some none := by
  obtain ⟨h1, h2⟩ := He.ba h
  exact ⟨xfB_ok h1, of_decide_eq_true h2⟩
end DL
namespace DL
open PySem PySem.Spec PyProof.Rows L2
end DL
namespace DL
open PySem PySem.Spec PyProof.Rows L2
/-- all but the table at P stays -/
def ExtP (P : Addr) (H H' : Hp) : Prop := ∀ b, H' b = H b ∨ (b = P ∧ ∃ ps, H' b = some (.tbl ps)) ∨ (H b = none ∧ ∃ q, H' b = some (LamX.CodeO b q))
theorem ExtP.kp {P : Addr} {H H' : Hp} (h : ExtP P H H') : ∀ b o, H b = some o → b ≠ P → H' b = some o := fun b o e n => by
  rcases h b with z | ⟨z, _⟩ | ⟨z, _⟩
  · rw [z]; exact e
  · exact absurd z n
  · rw [e] at z; cases z
section
variable {K : Fg} {B : Bs} {F H : Hp} {σ : L2.St} {env : En}
/-- what is raised, its dict one of the others -/
def ExF (K : Fg) (F : Hp) (x : Ex) (cls : Value) (dd : Option Addr) : Prop := (∃ C, K.mg x.c = some (.ref C) ∧ cls = .ref C) ∧ match x.fld with
  | none => dd = none
  | some (f, d) => ∃ p v, dd = some p ∧ F p = some (.xd [(f, v)]) ∧ Dt K F v d
theorem ExF.mono {F' : Hp} {x : Ex} {cls : Value} {dd : Option Addr} (h : ExF K F x cls dd) (s : Sub F F') : ExF K F' x cls dd := by
  obtain ⟨h1, h2⟩ := h
  obtain ⟨c, fld⟩ := x
  refine ⟨h1, ?_⟩
  cases fld with
  | none => exact h2
  | some q =>
    obtain ⟨f, d⟩ := q
    obtain ⟨p, v, e, h3, h4⟩ := h2
    exact ⟨p, v, e, s _ _ h3 rfl, h4.mono s⟩
end
def eLam (h : D ⊕ Ex → Option D) (f : Dx) : Df := fun env => (f env).bind fun r => (h r.1).bind fun d => some (d, r.2)
end DL
namespace DL
open PySem PySem.Spec PyProof.Rows L2
/-- the heap of the script and the tables: what it tells -/
structure TabH (K : Fr) (cs : List (Addr × Addr)) (a : Addr) (ns : List Int) (H : Hp) : Prop where
  tab : ∀ p ∈ cs, H p.2 = some (.tbl #[])
  only : ∀ b, H b = none ∨ (∃ p ∈ cs, p.2 = b) ∨ (b = a ∧ K.lookup a = none ∧ ∃ o xs, H b = some (.frz o (.lst xs)))
  scr : SqL K H a (ns.map V.int)
theorem law_callGT {P : Program} {w : World} {K : Fr} {mg mb : Str → Option Value} {k : Nat} {fa a : Addr} {cs : List (Addr × Addr)} {fd : FuncData} {x : Str} {sp : Sp} {s1 : Shared} {vs : List Value} {ns : List Int}
    (inn : K.In s1.heap) (hns : s1.heap.Ns mainGlobals mg) (hb : s1.heap.Ns builtinsNs mb) (hbb : ∀ y : Str, y ≠ "__name__" → mb y = bootBuiltins y) (hlim : s1.heap.NoLimit) (hg : s1.gens = #[])
    (hT : ∀ p ∈ cs, s1.heap.get? p.2 = some { cls := .none, data := .fields #[] }) (nT : ∀ p ∈ cs, K.lookup p.2 = none) (C : ∀ p ∈ cs, PySem.W.CodeHd s1.heap p.1 p.2)
    (hbm : ∃ (bm : Addr) (ob : Obj), mg "__builtins__" = some (.ref bm) ∧ bm ≠ builtinsNs ∧ s1.heap.get? bm = some ob ∧ ob.cls = .type "module" ∧ ob.dict = some builtinsNs ∧ ob.data = .plain)
    (ha : s1.heap.get? a = some { cls := .type "list", data := .seq vs.toArray }) (hi : IntsAre vs ns) (hl : ns.length ≤ sizeLine) (hr : Room k callerA)
    (G : ∀ base : Heap, K.In base → base.Ns mainGlobals mg → (∀ p ∈ cs, LamX.TabB base mg p.1 p.2) → FnOkG P w K mg base k fa fd [x] sp) (bind : ∀ (s : Shared) (u : Value), BindsTo s fd ⟨[u], []⟩ [(x, u)])
    (hsp : ∀ H : Hp, (∀ p ∈ cs, H p.2 = some (.tbl #[])) → SqL K H a (ns.map V.int) → sp [.ref a] H (fun v _ => v = .bl true) fun _ _ _ => False) :
    codeAny (model P w) callerA (.call (.ref fa) ⟨[.ref a], []⟩) (fun r s' => r = .ok (.ret (.bool true)) ∧ OldK s1.heap s'.heap ∧ s'.os = s1.os ∧ AllBare s'.gens) s1 := by
  have rv := vals_ints hi
  have lenV := hi.length
  have na : ∀ p ∈ cs, p.2 ≠ a := fun p hp z => by
    have q := hT p hp
    rw [z, ha] at q
    cases q
  have main : ∀ H : Hp, TabH K cs a ns H → HOk P w H s1.heap → codeAny (model P w) callerA (.call (.ref fa) ⟨[.ref a], []⟩) (fun r s' => r = .ok (.ret (.bool true)) ∧ OldK s1.heap s'.heap ∧ s'.os = s1.os ∧ AllBare s'.gens) s1 := by
    intro H hH hok
    -- what is neither a list nor an empty table is not tracked
    have free : ∀ {b : Addr} {o : Obj}, s1.heap.get? b = some o → (∀ vs n, o.data ≠ .seq vs n) → o.data ≠ .fields #[] → H b = none := fun {b o} e h1 h2 => by
      rcases hH.only b with z | ⟨p, hp, z⟩ | ⟨z, _⟩
      · exact z
      · rw [← z, hT p hp] at e; cases e
        exact absurd rfl h2
      · rw [z, ha] at e; cases e
        exact absurd rfl (h1 _ _)
    have atD : ∀ {b : Addr} {o : Obj} {es : Array DictEntry} {ep : Nat}, s1.heap.get? b = some o → o.data = .dict es ep → (hidT s1.heap H).get? b = some o := fun {b o es ep} e d => hidT_get e (free e (fun _ _ z => by rw [d] at z; cases z) (fun z => by rw [d] at z; cases z))
    have nsK : ∀ {b : Addr} {m : Str → Option Value}, s1.heap.Ns b m → (hidT s1.heap H).Ns b m := fun {b m} ⟨o, es, ep, e, d, r⟩ => ⟨o, es, ep, atD e d, d, r⟩
    have hK : K.In (hidT s1.heap H) := fun b o e => hidT_get (inn b o e) (by
      rcases hH.only b with z | ⟨p, hp, z⟩ | ⟨z, n, _⟩
      · exact z
      · rw [← z, nT p hp] at e; cases e
      · rw [z, n] at e; cases e)
    have lim' : (hidT s1.heap H).NoLimit := by
      obtain ⟨mc, h1, h2⟩ := hlim
      exact ⟨mc, nsK h1, h2⟩
    have TB : ∀ p ∈ cs, LamX.TabB (hidT s1.heap H) mg p.1 p.2 := fun p hp => by
      have hTp := hT p hp
      obtain ⟨o, es, ep, eG, dG, rG⟩ := id hns
      refine ⟨?_, ?_, fun z => by rw [z, hTp] at eG; cases eG; cases dG⟩
      · obtain ⟨o, us, file, tf, flags, tg, inF, text, tt, e1, r1, r2, r3, r⟩ := C p hp
        exact ⟨o, us, file, tf, flags, tg, inF, text, tt, hidT_get e1 (free e1 (fun _ _ z => by rw [r2] at z; cases z) (fun z => by rw [r2] at z; cases z; simp at r3)), r1, r2, r3, r⟩
      · obtain ⟨bm, ob, b1, b2, b3, b4, b5, b6⟩ := hbm
        exact ⟨bm, ob, b1, b2, (fun q => by rw [q, eG] at b3; cases b3; rw [dG] at b6; cases b6), (fun q => by rw [q, hTp] at b3; cases b3; cases b6), hidT_get b3 (free b3 (fun _ _ z => by rw [b6] at z; cases z) (fun z => by rw [b6] at z; cases z)), b4, b5, b6⟩
    have e0 : Env0 P w K mg (hidT s1.heap H) callerA [] s1 H := ⟨rfl, ⟨hK, nsK hns, ⟨mb, nsK hb, hbb⟩, lim'⟩, fun b o e => of_hidT e, Nat.le_of_eq (hidT_size _ _), trivial, fun b hb => absurd (show b ∈ ([] : List Addr) from hb) (by simp), hok, .of_eq hg⟩
    refine codeAny_mono ((G _ hK (nsK hns) TB).run callerA [] s1 H ⟨[.ref a], []⟩ [.ref a] [.ref a] _ _ rfl hr e0 (bind s1 (.ref a)) (.cons rfl .nil) (hsp H hH.tab hH.scr)) fun r s' h => ?_
    cases r with
    | error e => exact h.elim
    | ok fl =>
      cases fl with
      | next => exact h.elim
      | brk => exact h.elim
      | cont => exact h.elim
      | ret u =>
        obtain ⟨v, H', os, bare, un, hok', r', q⟩ := h
        have q' : v = .bl true := q
        subst q'
        obtain rfl : u = Value.bool true := r'
        have at_ : ∀ b o, s1.heap.get? b = some o → (s'.heap.get? b = some o) ∨ (∃ p ∈ cs, p.2 = b ∧ o = { cls := .none, data := .fields #[] } ∧ ∃ more, s'.heap.get? b = some { cls := .none, data := .fields more }) := fun b o e => by
          rcases hH.only b with z | ⟨p, hp, z⟩ | ⟨_, _, ob, xs, z⟩
          · exact .inl (un.keep b o e z (fun y => absurd (show b ∈ ([] : List Addr) from y) (by simp)) (by simp))
          · obtain ⟨more, y⟩ := un.tbls p.2 #[] (hH.tab p hp)
            have y' := hok' p.2 _ y
            rw [← z] at e ⊢
            rw [hT p hp] at e; cases e
            exact .inr ⟨p, hp, rfl, rfl, _, y'⟩
          · obtain ⟨e1, _⟩ := hok b _ z
            obtain ⟨e2, _⟩ := hok' b _ (un.frzs b ob _ z)
            rw [e] at e1; cases e1
            exact .inl e2
        refine ⟨rfl, ⟨fun b o e => ?_, fun b o e => ?_⟩, os, bare⟩
        · rcases at_ b o e with z | ⟨p, hp, rfl, rfl, more, hm⟩
          · exact .inl z
          · exact .inr (.inl ⟨((C p hp).tab (hT p hp)).isCodeTable, rfl, #[], more, rfl, by rw [Array.empty_append]; exact hm⟩)
        · rcases at_ b o e with z | ⟨_, _, _, _, more, hm⟩
          · exact ⟨_, z⟩
          · exact ⟨_, hm⟩
  let tb : Addr → Bool := fun b => cs.any fun p => p.2 == b
  have tb1 : ∀ p ∈ cs, tb p.2 = true := fun p hp => List.any_eq_true.mpr ⟨p, hp, by simp⟩
  have tb2 : ∀ b, tb b = true → ∃ p ∈ cs, p.2 = b := fun b h => by
    obtain ⟨p, hp, e⟩ := List.any_eq_true.mp h
    exact ⟨p, hp, beq_iff_eq.mp e⟩
  cases hk : K.lookup a with
  | some o =>
    have e := inn a o hk
    rw [ha] at e
    cases e
    refine main (fun b => if tb b = true then some (.tbl #[]) else none) ⟨fun p hp => if_pos (tb1 p hp), fun b => ?_, .inr ⟨_, vs.toArray, _, hk, rfl, rfl, rfl, by rw [List.size_toArray, lenV]; exact hl, by simpa using rv⟩⟩ fun b u z => ?_
    · by_cases hb : tb b = true
      · exact .inr (.inl (tb2 b hb))
      · exact .inl (if_neg hb)
    · by_cases hb : tb b = true
      · have z' := (if_pos hb).symm.trans z
        cases z'
        obtain ⟨p, hp, rfl⟩ := tb2 b hb
        exact hT p hp
      · have z' := (if_neg hb).symm.trans z
        cases z'
  | none =>
    refine main (fun b => if b = a then some (.frz { cls := .type "list", data := .seq vs.toArray } (.lst (ns.map V.int))) else if tb b = true then some (.tbl #[]) else none) ⟨fun p hp => (if_neg (na p hp)).trans (if_pos (tb1 p hp)), fun b => ?_, .inl (.inr ⟨{ cls := .type "list", data := .seq vs.toArray }, if_pos rfl⟩)⟩ fun b u z => ?_
    · by_cases hb : b = a
      · exact .inr (.inr ⟨hb, hk, _, _, if_pos hb⟩)
      · by_cases hb2 : tb b = true
        · exact .inr (.inl (tb2 b hb2))
        · exact .inl ((if_neg hb).trans (if_neg hb2))
    · by_cases hb : b = a
      · have z' := (if_pos hb).symm.trans z
        cases z'
        rw [hb]
        exact ⟨ha, by rw [List.length_map]; exact hl, vs, _, rv, ha⟩
      · have z1 := (if_neg hb).symm.trans z
        by_cases hb2 : tb b = true
        · have z' := (if_pos hb2).symm.trans z1
          cases z'
          obtain ⟨p, hp, rfl⟩ := tb2 b hb2
          exact hT p hp
        · have z' := (if_neg hb2).symm.trans z1
          cases z'
/-- the goal that the head leaves -/
theorem walkGT {l : PySem.W.OpenLaw} {n k : Nat} {q : Program} {loose : List Str} {XP : (Str → Option Value) → Heap → Prop} {YP : World → Heap → Prop} {d : DefRec} {x : Str}
    (hn : l.most = some n) (hn2 : n ≤ sizeLine) (hdf : d.params.defaults = []) (hr : Room k callerA)
    (G : ∀ (w : World) (mg : Str → Option Value) (fa : Addr) (h : Heap), YP w h → h.Ns mainGlobals mg → mg d.name = some (.ref fa) →
      ∃ (K : Fr) (fd : FuncData) (sp : Sp) (cs : List (Addr × Addr)), K.In h ∧ (∀ p ∈ cs, h.get? p.2 = some { cls := .none, data := .fields #[] }) ∧ (∀ p ∈ cs, K.lookup p.2 = none) ∧ (∀ p ∈ cs, PySem.W.CodeHd h p.1 p.2) ∧ (∀ (s : Shared) (u : Value), BindsTo s fd ⟨[u], []⟩ [(x, u)]) ∧
        (∀ (H : Hp) (a : Addr) (ns : List Int), ns.length ≤ n → (∀ p ∈ cs, H p.2 = some (.tbl #[])) → SqL K H a (ns.map V.int) → sp [.ref a] H (fun v _ => v = .bl true) fun _ _ _ => False) ∧
        ∀ base : Heap, K.In base → base.Ns mainGlobals mg → (∀ p ∈ cs, LamX.TabB base mg p.1 p.2) → FnOkG l.prog w K mg base k fa fd [x] sp) : PySem.W.WalkO q loose XP YP l.row.toRowW d [] (fun f vs => PySem.call f vs) := by
  refine Att.attach_call hn hdf fun w s0 s1 mg mb fa o pm cd doc a vs ns Gr Y ho hd hcd hmg hobj hints hlen hg => ?_
  obtain ⟨K, fd, sp, cs, inn, hT, nT, C, hb, hsp, hF⟩ := G w mg fa _ Y Gr.T.g hmg
  exact law_callGT inn Gr.T.g Gr.T.b Gr.T.builtins Gr.T.nolimit hg hT nT C Gr.T.bmain hobj hints (Nat.le_trans hlen hn2) hr hF hb fun H hH hS => hsp H a ns hlen hH hS
end DL
namespace DL
open PySem PySem.Spec PyProof.Rows L2
end DL
namespace DL
open PySem L2
def gOfXN (n : Nat) (fl : List Bool) (body : Sf) (ds : List D) : Option ((D ⊕ Ex) × List D) := if ds.length = fl.length then (body (env0 n fl ds)).bind fun r => match r with
  | .rn d e => (outsAt (slotsOf 0 fl) e).bind fun os => some (.inl d, os)
  | .xx x e => (outsAt (slotsOf 0 fl) e).bind fun os => some (.inr x, os)
  | _ => none else none
theorem bodyXN_of {K : Fg} {N : List Str} {fl : List Bool} {body : Sf} {vs : List V} {H : Hp} {Q : VK} {E : XK} (h : spX K fl .nw (gOfXN N.length fl body) vs H Q E) : tS K ⟨fun cls dd _ H' => E cls dd H'⟩ body { nx := fun _ H' => Q .non H', rt := Q } (L2.start N vs) H := by
  obtain ⟨F, ds, d, os, M, fh, nm, kt, ha, ap, hg, k⟩ := h
  unfold gOfXN at hg
  rw [if_pos ha.len.2] at hg
  obtain ⟨r, hr, hg⟩ := bd hg
  refine ⟨⟨F, H, M, [], [], K.tb, noZ⟩, F, env0 N.length fl ds, r, sl_entry ha fh nm kt ap, hr, ?_⟩
  have nf : ∀ {σ' : L2.St} {F' H' : Hp} {e : En}, Sl K ⟨F, H, M, [], [], K.tb, noZ⟩ F' H' σ' e → ∀ p, F p = none → er F' p ≠ none → H p = none ∧ ∀ ob u, er F' p = some u → H' p ≠ some (.frz ob u) := fun {_ F' _ _} S p a b => by
    have b' : F' p ≠ none := fun z => b (er_none z)
    refine ⟨S.nw p a b', fun ob u e h => ?_⟩
    rcases S.lk p ob u (er_some e) h with z | ⟨z, _⟩
    · cases z
    · have n0 := S.nw p a b'
      dsimp only at z n0
      rw [n0] at z; cases z
  have out : ∀ {σ' : L2.St} {F' H' : Hp} {e : En}, Sl K ⟨F, H, M, [], [], K.tb, noZ⟩ F' H' σ' e → outsAt (slotsOf 0 fl) e = some os → OutsOk K (er F') H' M os := fun S q => by
    rw [← ha.slots] at q
    exact (outs_ok S (fun _ z => z) q).mono (er_sub _) fun _ _ z => er_none z
  cases r with
  | rn d' e =>
    obtain ⟨os', q, hg⟩ := bd hg
    cases hg
    exact fun p σ' F' H' S s n n0 ho => (k (er F') H' (er_lk S.fh) (er_no _) S.kpE (s.trans (er_sub _)) (nf S) (fun p o a b c => S.kp p o a b (fun _ z => nomatch z) c) (out S q)).1 _ _ rfl ⟨p, rfl, er_none n, n0, ho.mono (er_sub _) fun _ z => z⟩
  | xx x e =>
    obtain ⟨os', q, hg⟩ := bd hg
    cases hg
    exact fun cls dd σ' F' H' S s hx => (k (er F') H' (er_lk S.fh) (er_no _) S.kpE (s.trans (er_sub _)) (nf S) (fun p o a b c => S.kp p o a b (fun _ z => nomatch z) c) (out S q)).2 _ _ _ rfl (hx.mono (er_sub _) fun a z1 z2 _ => ⟨z1, (fun _ z => nomatch z), er_none z2⟩)
  | nx e => cases hg
  | rt d' e => cases hg
  | rm s0 d' e => cases hg
  | bk e => cases hg
  | ct e => cases hg
section
variable {X : Cx} {Tb : TbT} {x : Str} {p pos p3 : Pos} {e : Expr} {es : List Expr} {ps : List Str} {k j : Nat} {fl : List Bool} {g : List D → Option ((D ⊕ Ex) × List D)} {os : List Opd} {wh : Wh}
theorem de_callTGN (G : GotX X.prog X.w X.K X.mg X.base k x ps (spX (X.kg Tb) fl .nw g)) (hr : Room j X.A) (hg : Gl X x) (ha : PA X (e :: es) (tAr (X.kg Tb) os)) (hj : k ≤ j := by decide) (hdb : (x == ("__debug__" : Str)) = false := by decide) (he : starEach (e :: es) X.env = (false, eval e X.env) :: starEach es X.env := by rfl) (hpl : (backTo pos (starEach es X.env)).any (·.1) = false := by rfl) :
    PE X (.Call (.Name x p) (e :: es) [] pos) (tN (X.kg Tb) (eCall fl (told g) os)) := by
  obtain ⟨f, fd, F, m, kp, b⟩ := G.ex
  exact PEi (pe_call (E := E0) F (hr.mono hj) hg m kp b .nil passF ha hdb he hpl) fun σ H Q h => call_told σ H Q (callN_le σ H Q h)
end
def iKT (f : Df) : If := fun env => (f env).bind fun r => match r.1 with
  | .dict ((.bool true, .none) :: es) => some (es.map (·.1), r.2)
  | _ => none
end DL
namespace DL
open PySem PySem.Spec PyProof.Rows L2
end DL
namespace DL
open PySem PySem.Spec PyProof.Rows L2
section
variable {X : Cx} {pins : List (Addr × Obj)} {σ : L2.St} {H : Hp} {s : Shared}
/-- all that was there is kept, and R holds of what was there, what is, what is told -/
def Pur (R : Heap → Heap → Value → Prop) (s₁ : Shared) (v : Value) (s₂ : Shared) : Prop := ∃ h' tk, s₂ = { s₁ with heap := h', toks := tk } ∧ (∀ b o, s₁.heap.get? b = some o → h'.get? b = some o) ∧ R s₁.heap h' v
/-- a new tuple of two -/
def PairN (a b : Int) (h h' : Heap) (v : Value) : Prop := ∃ P o t1 t2 n, v = .ref P ∧ h.get? P = none ∧ h'.get? P = some o ∧ o.cls = .type "tuple" ∧ o.data = .seq #[.int a t1, .int b t2] n
theorem PairN.reads {a b : Int} {h h' : Heap} {v : Value} (r : PairN a b h h' v) : Reads h' v (.tuple [.int a, .int b]) [] := by
  obtain ⟨P, o, t1, t2, n, rfl, nw, e5, e6, e7⟩ := r
  exact .tuple e5 e6 e7 (.cons (.int _ _) (.cons (.int _ _) .nil))
end
end DL
namespace DL
open PySem PySem.Spec PyProof.Rows L2
end DL
namespace DL
open PySem PySem.Spec PyProof.Rows L2
section
variable {X : Cx} {pins : List (Addr × Obj)} {σ : L2.St} {H : Hp} {s : Shared}
theorem Pur.key {a b : Int} {s : Shared} {v : Value} {s' : Shared} (h : Pur (PairN a b) s v s') : PySem.W.KeyPure (.tuple [.int a, .int b]) s v s' := by
  obtain ⟨h', tk, e, k, r⟩ := h
  exact ⟨h', tk, e, k, r.reads⟩
end
end DL
namespace DL
open PySem PySem.Spec PyProof.Rows L2
theorem DtK.drop {K : Fg} {F : Hp} (k : Key) : ∀ {kvs : List (Key × V)} {es : List (D × D)}, DtK K F kvs es → DtK K F (dropK kvs k) (es.filter fun e => decide (keyD e.1 ≠ some k))
  | _, _, .nil => .nil
  | (k', v') :: _, _, .cons (d := d') r t => by
    unfold dropK
    by_cases e : k' = k
    · rw [List.filter_cons_of_neg (by simp [e]), List.filter_cons_of_neg (by simp [keyD_kD, e])]; exact t.drop k
    · rw [List.filter_cons_of_pos (by simp [e]), List.filter_cons_of_pos (by simp [keyD_kD, e])]; exact .cons r (t.drop k)
end DL
namespace DL
open PySem PySem.Spec PyProof.Rows L2
end DL
namespace DL
open PySem PySem.Spec PyProof.Rows L2
end DL
namespace DL
open PySem PySem.Spec PyProof.Rows L2
end DL
namespace DL
open PySem PySem.Spec PyProof.Rows L2
end DL
namespace DL
open PySem PySem.Spec PyProof.Rows L2
theorem DtA.isEmpty {K : Fg} {F : Hp} {vs : List V} {ds : List D} (h : DtA K F vs ds) : vs.isEmpty = ds.isEmpty := by
  cases h <;> rfl
end DL
namespace DL
open PySem PySem.Spec PyProof.Rows L2 LiI
/-- the tuples that were gathered -/
structure ZG (xs ys : Array Value) (lo : Addr) (h : Heap) (as : List Addr) : Prop where
  rise : as.Pairwise (· < ·)
  above : ∀ a ∈ as, lo < a
  pairs : ∀ (j : Nat) (a : Addr), as[j]? = some a → ∃ x y, xs[j]? = some x ∧ ys[j]? = some y ∧ IsPair h a x y
theorem ZG.there {xs ys : Array Value} {lo : Addr} {h : Heap} {as : List Addr} (g : ZG xs ys lo h as) {a : Addr} (ha : a ∈ as) : a < h.objs.size := by
  obtain ⟨j, hj⟩ := List.mem_iff_getElem?.mp ha
  obtain ⟨_, _, _, _, e⟩ := g.pairs j a hj
  exact Heap.lt_size e
/-- the zip's state: nothing given out, or a tuple above S that is still there -/
def ZSt (h : Heap) (z TI TO i1 i2 l1 l2 S : Addr) (i : Nat) : Prop := IsPair h TI (.ref i1) (.ref i2) ∧ h.IsListIter i1 l1 i ∧ h.IsListIter i2 l2 i ∧
  ((IsZip h z TI TO .none ∧ ∃ a b, IsPair h TO a b) ∨ ∃ T f oT, IsZipHeld h z TI TO T f ∧ h.get? T = some oT ∧ S < T)
structure ZLow (z TI TO i1 i2 S : Addr) : Prop where
  z : z < S
  TI : TI < S
  TO : TO < S
  i1 : i1 < S
  i2 : i2 < S
theorem ZSt.keep {h h' : Heap} {z TI TO i1 i2 l1 l2 S : Addr} {i : Nat} (L : ZLow z TI TO i1 i2 S) (st : ZSt h z TI TO i1 i2 l1 l2 S i) (k : ∀ b o, b ≠ S → h.get? b = some o → h'.get? b = some o) : ZSt h' z TI TO i1 i2 l1 l2 S i := by
  obtain ⟨a, b, c, d⟩ := st
  refine ⟨k _ _ (Nat.ne_of_lt L.TI) a, b.at fun o e => k _ o (Nat.ne_of_lt L.i1) e, c.at fun o e => k _ o (Nat.ne_of_lt L.i2) e, ?_⟩
  rcases d with ⟨d, x, y, e⟩ | ⟨T, f, oT, d, e, g⟩
  · exact .inl ⟨k _ _ (Nat.ne_of_lt L.z) d, x, y, k _ _ (Nat.ne_of_lt L.TO) e⟩
  · exact .inr ⟨T, f, oT, k _ _ (Nat.ne_of_lt L.z) d, k _ _ (Nat.ne_of_gt g) e, g⟩
end DL
namespace DL
open PySem PySem.Spec PyProof.Rows L2
theorem OVA.app {K : Fg} {F : Hp} {σ : L2.St} : ∀ {us us2 : List OV} {vs vs2 : List V}, OVA K F σ us vs → OVA K F σ us2 vs2 → OVA K F σ (us ++ us2) (vs ++ vs2)
  | [], _, [], _, _, h => h
  | _ :: _, _, _ :: _, _, h, h2 => ⟨h.1, h.2.app h2⟩
  | [], _, _ :: _, _, h, _ => h.elim
  | _ :: _, _, [], _, h, _ => h.elim
theorem OVA.len {K : Fg} {F : Hp} {σ : L2.St} : ∀ {us : List OV} {vs : List V}, OVA K F σ us vs → us.length = vs.length
  | [], [], _ => rfl
  | _ :: _, _ :: _, h => by simp [h.2.len]
  | [], _ :: _, h => h.elim
  | _ :: _, [], h => h.elim
end DL
namespace DL
open PySem PySem.Spec PyProof.Rows L2
end DL
namespace DL
open PySem PySem.Spec PyProof.Rows L2
end DL
namespace DL
open PySem L2
end DL
namespace DL
open PySem PySem.Spec PyProof.Rows L2
end DL
namespace DL
open PySem PySem.Spec PyProof.Rows L2
end DL
namespace DL
open PySem PySem.Spec PyProof.Rows L2
section
variable {prog : Program} {w : World} {A : Around} {E : Value → Shared → Prop} {s : Shared} {z TI TO T i1 i2 l1 l2 : Addr} {f : Bool} {m n : Nat} {xs ys : Array Value}
def ZN (h : Heap) (z TI TO : Addr) : Prop := IsZip h z TI TO .none ∨ ∃ T f, IsZipHeld h z TI TO T f
theorem ZN.get {h : Heap} (st : ZN h z TI TO) : ∃ o, h.get? z = some o ∧ (∀ v, o.data ≠ .cell v) ∧ ∀ h', h'.get? z = some o → ZN h' z TI TO := by
  rcases st with q | ⟨T, f, q⟩
  · exact ⟨_, q, (fun v q => nomatch q), fun h' e => .inl e⟩
  · exact ⟨_, q, (fun v q => nomatch q), fun h' e => .inr ⟨T, f, e⟩⟩
end
end DL
namespace DL
open PySem L2
end DL
namespace DL
open PySem L2
theorem DtF.look {K : Fg} {F : Hp} {f : Str} {d : D} : ∀ {fs : List (Str × V)} {es : List (D × D)}, DtF K F fs es → lookF f es = some d → ∃ v, fs.lookup f = some v ∧ Dt K F v d
  | _, _, .nil, h => by cases h
  | (g, v) :: fs, (_, d') :: es, .cons h t, e => by
    unfold lookF at e
    split at e
    · rename_i q
      cases e
      subst q
      exact ⟨v, by rw [List.lookup_cons]; simp, h⟩
    · rename_i q
      obtain ⟨w, h1, h2⟩ := t.look e
      refine ⟨w, ?_, h2⟩
      rw [List.lookup_cons]
      have : (f == g) = false := beq_eq_false_iff_ne.mpr q
      rw [this]
      exact h1
theorem DtF.put {K : Fg} {F : Hp} {f : Str} {v : V} {d : D} (r : Dt K F v d) : ∀ {fs : List (Str × V)} {es : List (D × D)}, DtF K F fs es → DtF K F (putF f v fs) (fldSet f d es)
  | _, _, .nil => .cons r .nil
  | (g, w) :: fs, (_, d') :: es, .cons h t => by
    unfold putF fldSet
    split
    · exact .cons r t
    · exact .cons h (t.put r)
theorem DtF.len {K : Fg} {F : Hp} : ∀ {fs : List (Str × V)} {es : List (D × D)}, DtF K F fs es → fs.length = es.length
  | _, _, .nil => rfl
  | _, _, .cons _ t => by rw [List.length_cons, List.length_cons, t.len]
theorem Lk.ins {F H : Hp} (s : Lk F H) {a C dx : Addr} {fs : List (Str × V)} (h : F a = some (.ins C dx fs)) : H a = some (.ins C dx fs) := by
  rcases s a _ h with h | ⟨z, _⟩ | ⟨z, _⟩
  · exact h
  · exact z.elim
  · cases z
end DL
namespace DL
open PySem L2
end DL
namespace DL
open PySem PySem.Spec PyProof.Rows L2
end DL
namespace DL
open PySem PySem.Spec PyProof.Rows L2
end DL
namespace DL
open PySem PySem.Spec PyProof.Rows L2
section
variable {X : Cx} {Tb : TbT} {x : Str} {p pos : Pos} {e : Expr} {es : List Expr} {ps : List Str} {k j : Nat} {fl : List Bool} {g : List D → Option (D × List D)} {os : List Opd} {sp : Sp} {t : TA}
theorem FnOkG.mono {P : Program} {w : World} {K : Fr} {mg : Str → Option Value} {base : Heap} {j k : Nat} {f : Addr} {fd : FuncData} {ps : List Str} {sp : Sp} (F : FnOkG P w K mg base j f fd ps sp) (h : j ≤ k) : FnOkG P w K mg base k f fd ps sp := ⟨F.len, fun A outer s H args us vs Q E gd hr => F.run A outer s H args us vs Q E gd (hr.mono h)⟩
end
end DL
namespace DL
open PySem PySem.Spec PyProof.Rows L2
section
variable {prog : Program} {w : World} {A : Around} {s : Shared}
/-- a list of whole numbers -/
def IsIL (h : Heap) (v : Value) (ns : List Int) : Prop := ∃ a us, v = .ref a ∧ h.IsList a us ∧ IntsAre us.toList ns
theorem IsIL.keeps {h h' : Heap} {v : Value} {ns : List Int} (x : IsIL h v ns) (kp : ∀ b o, h.get? b = some o → .ref b = v → h'.get? b = some o) : IsIL h' v ns := by
  obtain ⟨a, us, e, ⟨o, ho, r⟩, hi⟩ := x
  exact ⟨a, us, e, ⟨o, kp a o ho e.symm, r⟩, hi⟩
end
end DL
namespace DL
open PySem L2
end DL
namespace DL
open PySem L2
def flatD : D → Bool
  | .none => true
  | .bool _ => true
  | .int _ => true
  | .str _ => true
  | _ => false
def fV : D → V
  | .bool b => .bl b
  | .int i => .int i
  | .str x => .str x
  | _ => .non
theorem Dt.flat {K : Fg} {F : Hp} {v : V} {d : D} (h : Dt K F v d) (f : flatD d = true) : v = fV d ∧ flatV v = true := by
  cases d with
  | none => cases h; exact ⟨rfl, rfl⟩
  | bool b => cases h; exact ⟨rfl, rfl⟩
  | int i => cases h; exact ⟨rfl, rfl⟩
  | str x => cases h; exact ⟨rfl, rfl⟩
  | _ => cases f
theorem DtA.flat {K : Fg} {F : Hp} : ∀ {vs : List V} {ds : List D}, DtA K F vs ds → ds.all flatD = true → vs = ds.map fV ∧ vs.all flatV = true
  | _, _, .nil, _ => ⟨rfl, rfl⟩
  | v :: vs, d :: ds, .cons h t, f => by
    rw [List.all_cons, Bool.and_eq_true] at f
    obtain ⟨h1, h2⟩ := h.flat f.1
    obtain ⟨h3, h4⟩ := t.flat f.2
    exact ⟨by rw [h1, h3]; rfl, by rw [List.all_cons, h2, h4]; rfl⟩
theorem eqV_flat {a b : D} (fa : flatD a = true) (fb : flatD b = true) : eqV (fV a) (fV b) = PyData.eqv a b := by
  cases a <;> first | (cases fa; done) | skip
  all_goals (cases b <;> first | (cases fb; done) | rfl | (simp [fV, eqV, PyData.eqv]; done) | skip)
  all_goals (rename_i x y; cases x <;> first | rfl | (simp [fV, eqV, PyData.eqv]; done) | skip)
theorem any_flat {a : D} (fa : flatD a = true) : ∀ {ds : List D}, ds.all flatD = true → (ds.any fun z => eqV (fV z) (fV a)) = ds.any fun z => PyData.eqv z a
  | [], _ => rfl
  | z :: r, h => by
    rw [List.all_cons, Bool.and_eq_true] at h
    rw [List.any_cons, List.any_cons, any_flat fa h.2, eqV_flat h.1 fa]
def gInF (n : Bool) : D → D → Option D := fun k d => match d with
  | .tuple ds => if (flatD k && ds.all flatD) = true then some (.bool (xor n (ds.any fun z => PyData.eqv z k))) else none
  | _ => none
theorem ok_inF {K : Fg} {n : Bool} : Ok2 K (rIn K.fr n) (gInF n) := fun {B F H σ env x y a b d Q} S ha hb e k => by
  unfold gInF at e
  split at e
  · split at e
    · rename_i ds h
      cases e
      rw [Bool.and_eq_true] at h
      rcases hb with hb | ⟨p, rfl, _, ho⟩
      · cases hb with
        | tup hf ht =>
          rename_i p vs
          rcases ha with ha | ⟨q, rfl, _, ho⟩
          · have fa := h.1
            obtain ⟨h1, h2⟩ := ha.flat h.1
            obtain ⟨h3, h4⟩ := ht.flat h.2
            refine ⟨p, vs, rfl, .inr (SqT.of (S.fh.tup hf)), h2, h4, ?_⟩
            have e1 : inV x vs = ds.any fun z => PyData.eqv z a := by
              unfold inV
              rw [h1, h3, List.any_map]
              exact any_flat fa h.2
            rw [e1]
            have := k (.bl (xor n (ds.any fun z => PyData.eqv z a))) F H S (Sub.refl _) (.bl _)
            cases n
            · simpa using this
            · simpa using this
          · cases a <;> first | (exact ho.elim) | (exact absurd h.1 Bool.false_ne_true)
      · exact ho.elim
    · cases e
  · cases e
end DL
namespace DL
open PySem PySem.Spec PyProof.Rows L2
end DL
namespace DL
open PySem PySem.Spec PyProof.Rows L2
end DL
namespace DL
open PySem PySem.Spec PyProof.Rows L2
end DL
namespace DL
open PySem L2
def gOfXM (n : Nat) (fl : List Bool) (s : Sh) (body : Sf) (ds : List D) : Option ((D ⊕ Ex) × List D) := if ds.length = fl.length then (body (env0 n fl ds)).bind fun r => match r with
  | .rm s' d e => if s' = shO s d then (outsAt (slotsOf 0 fl) e).bind fun os => some (.inl d, os) else none
  | .xx x e => (outsAt (slotsOf 0 fl) e).bind fun os => some (.inr x, os)
  | _ => none else none
theorem bodyXM_of {K : Fg} {N : List Str} {fl : List Bool} {s0 : Sh} {body : Sf} {vs : List V} {H : Hp} {Q : VK} {E : XK} (h : spX K fl (.tr s0) (gOfXM N.length fl s0 body) vs H Q E) : tS K ⟨fun cls dd _ H' => E cls dd H'⟩ body { nx := fun _ H' => Q .non H', rt := Q } (L2.start N vs) H := by
  obtain ⟨F, ds, d, os, M, fh, nm, kt, ha, ap, hg, k⟩ := h
  unfold gOfXM at hg
  rw [if_pos ha.len.2] at hg
  obtain ⟨r, hr, hg2⟩ := bd hg
  clear hg
  refine ⟨⟨F, H, M, [], [], K.tb, noZ⟩, F, env0 N.length fl ds, r, sl_entry ha fh nm kt ap, hr, ?_⟩
  have nf : ∀ {σ' : L2.St} {F' H' : Hp} {e : En}, Sl K ⟨F, H, M, [], [], K.tb, noZ⟩ F' H' σ' e → ∀ p, F p = none → er F' p ≠ none → H p = none ∧ ∀ ob u, er F' p = some u → H' p ≠ some (.frz ob u) := fun {_ F' _ _} S p a b => by
    have b' : F' p ≠ none := fun z => b (er_none z)
    refine ⟨S.nw p a b', fun ob u e h => ?_⟩
    rcases S.lk p ob u (er_some e) h with z | ⟨z, _⟩
    · cases z
    · have n0 := S.nw p a b'
      dsimp only at z n0
      rw [n0] at z; cases z
  have out : ∀ {σ' : L2.St} {F' H' : Hp} {e : En}, Sl K ⟨F, H, M, [], [], K.tb, noZ⟩ F' H' σ' e → outsAt (slotsOf 0 fl) e = some os → OutsOk K (er F') H' M os := fun S q => by
    rw [← ha.slots] at q
    exact (outs_ok S (fun _ z => z) q).mono (er_sub _) fun _ _ z => er_none z
  cases r with
  | rm s' d' e =>
    dsimp only at hg2
    split at hg2
    · rename_i hs
      subst hs
      obtain ⟨os', q, hg3⟩ := bd hg2
      cases hg3
      exact fun v L σ' F' H' S s t nd hL => (k (er F') H' (er_lk S.fh) (er_no _) S.kpE (s.trans (er_sub _)) (nf S) (fun p o a b c => S.kp p o a b (fun _ z => nomatch z) c) (out S q)).1 _ _ rfl ⟨L, t.mono (er_sub _), nd, fun q hq => ⟨(hL q hq).1, er_none (hL q hq).2.1, (hL q hq).2.2⟩⟩
    · cases hg2
  | xx x e =>
    obtain ⟨os', q, hg3⟩ := bd hg2
    cases hg3
    exact fun cls dd σ' F' H' S s hx => (k (er F') H' (er_lk S.fh) (er_no _) S.kpE (s.trans (er_sub _)) (nf S) (fun p o a b c => S.kp p o a b (fun _ z => nomatch z) c) (out S q)).2 _ _ _ rfl (hx.mono (er_sub _) fun a z1 z2 _ => ⟨z1, (fun _ z => nomatch z), er_none z2⟩)
  | rn d' e => cases hg2
  | nx e => cases hg2
  | rt d' e => cases hg2
  | bk e => cases hg2
  | ct e => cases hg2
section
variable {X : Cx} {Tb : TbT} {x : Str} {p pos p3 : Pos} {e : Expr} {es : List Expr} {ps : List Str} {k j : Nat} {fl : List Bool} {s : Sh} {g : List D → Option ((D ⊕ Ex) × List D)} {os : List Opd} {wh : Wh}
/-- a raising def that tells a tree, called where it does not raise -/
theorem dm_callTG (G : GotX X.prog X.w X.K X.mg X.base k x ps (spX (X.kg Tb) fl (.tr s) g)) (hr : Room j X.A) (hg : Gl X x) (ha : PA X (e :: es) (tAr (X.kg Tb) os)) (hj : k ≤ j := by decide) (hdb : (x == ("__debug__" : Str)) = false := by decide) (he : starEach (e :: es) X.env = (false, eval e X.env) :: starEach es X.env := by rfl) (hpl : (backTo pos (starEach es X.env)).any (·.1) = false := by rfl) :
    PE X (.Call (.Name x p) (e :: es) [] pos) (tM (X.kg Tb) (eCallM fl s (told g) os)) := by
  obtain ⟨f, fd, F, m, kp, b⟩ := G.ex
  exact PEi (pe_call (E := E0) F (hr.mono hj) hg m kp b .nil passF ha hdb he hpl) fun σ H Q h => call_told σ H Q (callM_le σ H Q h)
theorem Tr.non_iff {K : Fg} {F : Hp} {s : Sh} {v : V} {d : D} {L : Nodes} (h : Tr K F s v d L) : decide (v = .non) = DL.isNon d := by
  cases h with
  | fz h => exact Bv.non_iff (H := F) (.inl h)
  | _ => rfl
end
end DL
namespace DL
open PySem L2
end DL
namespace DL
open PySem PySem.Spec PyProof.Rows L2
def caH (h : Heap) (a x1 : Addr) : Heap := (h.update a (Obj.mapFields (·.setIfInBounds 3 (.ref x1)))).update a (Obj.mapFields (·.setIfInBounds 4 (.bool true)))
def caO (o : Obj) (x1 : Addr) : Obj := (o.mapFields (·.setIfInBounds 3 (.ref x1))).mapFields (·.setIfInBounds 4 (.bool true))
def caV (vs : Array Value) (x1 : Addr) : Array Value := (vs.setIfInBounds 3 (.ref x1)).setIfInBounds 4 (.bool true)
theorem caO_data {o : Obj} {vs : Array Value} (d : o.data = .fields vs) (x1 : Addr) : (caO o x1).data = .fields (caV vs x1) :=
  Obj.data_mapFields (Obj.data_mapFields d _) _
theorem caO_cls {o : Obj} {x1 : Addr} : (caO o x1).cls = o.cls := by unfold caO; rw [Obj.cls_mapFields, Obj.cls_mapFields]
theorem caO_dict {o : Obj} {x1 : Addr} : (caO o x1).dict = o.dict := by unfold caO; rw [HandSPX.dict_mapFields, HandSPX.dict_mapFields]
theorem caH_at {h : Heap} {a x1 : Addr} {o : Obj} {vs : Array Value} (e : h.get? a = some o) (d : o.data = .fields vs) : (caH h a x1).get? a = some (caO o x1) :=
  Heap.get?_update_self _ (Heap.get?_update_self _ e (Obj.isFreed_of_fields (Obj.data_mapFields d _))) (Obj.isFreed_of_fields (caO_data d x1))
theorem caH_ne {h : Heap} {a b x1 : Addr} (n : a ≠ b) : (caH h a x1).get? b = h.get? b := by
  unfold caH
  rw [Heap.get?_update_other _ _ n, Heap.get?_update_other _ _ n]
section
variable {prog : Program} {w : World} {A : Around} {E : Value → Shared → Prop}
/-- what stands ready to be raised from x1 -/
structure FromOk (prog : Program) (w : World) (A : Around) (E : Value → Shared → Prop) (c : Sem Value) (x1 a : Addr) (t : Shared) (oe : Obj) (vs : Array Value) (o1 : Obj) (v1 : Array Value) : Prop where
  at_ : t.heap.get? a = some oe
  dat : oe.data = .fields vs
  tb : vs[1]? = some .none
  sz : 4 < vs.size
  ne : x1 ≠ a
  hd : A.handled = some (.ref x1)
  at1 : t.heap.get? x1 = some o1
  dat1 : o1.data = .fields v1
  cx1 : v1[2]? = some .none
  cause : ∀ Q' : Value → Shared → Prop, Q' (.ref x1) t → wpAny (model prog w) A c Q' E t
  sub : PySem.W.Looks (model prog w) t.heap (isSubtype oe.cls (.type "BaseException")) true
  sub1 : PySem.W.Looks (model prog w) t.heap (isSubtype o1.cls (.type "BaseException")) true
  typ : PySem.W.Looks (model prog w) (caH t.heap a x1) (typeOf oe.cls) (.type "type")
  out : E (.ref a) { t with heap := (caH t.heap a x1).update a (Obj.mapFields (·.setIfInBounds 2 (.ref x1))) }
theorem not_type {M : Model} {t : Shared} {a : Addr} {o : Obj} {vs : Array Value} {Q : Bool → Shared → Prop} (e : t.heap.get? a = some o) (d : o.data = .fields vs) (q : Q false t) : wpAny M A (isType (.ref a)) Q E t := by
  simp only [isType, loadHead]
  refine wpAny_bind (wpAny_loadPart e ?_)
  rw [d]
  exact wpAny_pure q
theorem raise_from {env : Env} {s : Shared} {x c : Sem Value} {Q : Flow → Shared → Prop} {x1 : Addr}
    (h : wpAny (model prog w) A x (fun v t => ∃ a oe vs o1 v1, v = .ref a ∧ FromOk prog w A E c x1 a t oe vs o1 v1) E s) : wpAny (model prog w) A (raiseStmt env (some x) (some c)) Q E s := by
  unfold raiseStmt
  dsimp only
  refine wpAny_bind (thn h fun v t hv => ?_)
  obtain ⟨a, oe, vs, o1, v1, rfl, F⟩ := hv
  have ty : ∀ {b : Addr} {o : Obj} {hp : Heap}, hp.get? b = some o → PySem.W.Looks (model prog w) hp (typeOf (.ref b)) o.cls := fun {b o hp} e A' Q' E' s' k q => wpAny_typeOf_ref (k _ _ e) q
  have is0 : PySem.W.Looks (model prog w) t.heap (isInstance (.ref a) (.type "BaseException")) true := (ty F.at_).andThen F.sub
  have is1 : PySem.W.Looks (model prog w) t.heap (isInstance (.ref x1) (.type "BaseException")) true := (ty F.at1).andThen F.sub1
  have d3 := Obj.data_mapFields F.dat (·.setIfInBounds 3 (.ref x1))
  have e3 := Heap.get?_update_self (Obj.mapFields (·.setIfInBounds 3 (.ref x1))) F.at_ (Obj.isFreed_of_fields d3)
  have e4 := caH_at (x1 := x1) F.at_ F.dat
  have d4 := caO_data F.dat x1
  have ty4 := ty e4
  have i3 : 3 < vs.size := Nat.lt_of_succ_lt F.sz
  have i4 : 4 < (vs.setIfInBounds 3 (Value.ref x1)).size := by simpa using F.sz
  have i2 : 2 < (caV vs x1).size := by
    have := F.sz
    unfold caV
    simp only [Array.size_setIfInBounds]
    omega
  have tb4 : (caV vs x1)[1]? = some Value.none := HotX.set_other (by decide) (HotX.set_other (by decide) F.tb)
  have rest : wpAny (model prog w) A (do
      if (← isType (.ref a)) = true then do
        let y ← holding [.ref a] (raisedFor (.ref a) (.ref a))
        setFlight y none
        raiseNew y
      else do
        let y ← raisedInstance (.ref a)
        setFlight y none
        raiseNew y : Sem Flow) Q E { t with heap := caH t.heap a x1 } := by
    refine wpAny_bind (not_type e4 d4 ?_)
    simp only [Bool.false_eq_true, if_false]
    unfold raisedInstance
    refine wpAny_bind (wpAny_bind (ty4.here (wpAny_bind ?_)))
    rw [caO_cls]
    refine F.typ.here ?_
    rw [if_pos (beq_self_eq_true _)]
    refine wpAny_pure ?_
    unfold setFlight
    refine wpAny_bind (wpAny_bind (wpAny_field e4 d4 tb4 ?_))
    rw [if_neg (by decide)]
    refine wpAny_pure (HotX.raiseNew_hot ⟨F.hd, o1, v1, ?_, F.dat1, F.cx1⟩ F.ne e4 d4 i2 F.out)
    show (caH t.heap a x1).get? x1 = _
    rw [caH_ne (Ne.symm F.ne)]
    exact F.at1
  refine wpAny_bind (wpAny_holding (F.cause _ (wpAny_bind (wpAny_pure ?_))))
  dsimp only
  refine wpAny_bind (wpAny_holding ?_)
  unfold excFromValue isExcClass
  refine wpAny_bind (wpAny_bind (not_type F.at_ F.dat ?_))
  simp only [Bool.false_eq_true, if_false]
  refine wpAny_pure ?_
  simp only [Bool.false_eq_true, if_false]
  refine wpAny_bind (is0.here ?_)
  simp only [if_true]
  refine wpAny_pure ?_
  have nn : (Value.ref x1 == Value.none) = false := rfl
  simp only [nn, Bool.false_eq_true, if_false]
  refine wpAny_bind (wpAny_holding ?_)
  refine wpAny_bind (wpAny_bind (not_type F.at1 F.dat1 ?_))
  simp only [Bool.false_eq_true, if_false]
  refine wpAny_pure ?_
  simp only [Bool.false_eq_true, if_false]
  refine wpAny_bind (is1.here ?_)
  simp only [if_true]
  refine wpAny_pure ?_
  refine wpAny_bind (wpAny_setField F.at_ F.dat i3 (wpAny_bind (wpAny_setField e3 d3 i4 ?_)))
  exact rest
end
theorem ps_raiseF {X : Cx} {W : WX} {e : Expr} {t : L2.St → Hp → XK → Prop} {i : Nat} {n : Str} {cpos pos : Pos} {q : Addr × Obj} {v1 : Array Value} (hh : X.A.handled = some (.ref q.1)) (hq : q ∈ X.pn) (hd1 : q.2.data = .fields v1) (hc1 : v1[2]? = some .none)
    (r1 : Raises X q.2.cls) (tk : L2.Takes X W) (he : L2H.PMk5 X e t) (hn : X.N[i]? = some n) (hl : X.env.kindOf n = some .local) (hdb : (n == ("__debug__" : Str)) = false := by decide) :
    PS X (.Raise (some e) (some (.Name n cpos)) pos) (fun _ σ H => σ[i]? = some (some (.ref q.1)) ∧ t σ H fun cls d H' => W cls d σ H') := by
  refine ⟨fun pins s σ H D I h => ?_⟩
  obtain ⟨hσ, h⟩ := h
  show wpAny _ _ (do standAt pos; raiseStmt X.env (some (do let v ← eval e X.env; standAt pos; pure v)) (some (do let v ← eval (.Name n cpos) X.env; standAt pos; pure v))) _ _ _
  refine wpAny_bind (wpAny_standAt (raise_from (x1 := q.1) (wpAny_bind (thn (he pins s σ H _ I h) fun u s1 hu => wpAny_bind (wpAny_standAt (wpAny_pure ?_))))))
  obtain ⟨⟨a, oe, vs, sI, H', cls, d, rfl, J, k, hne, ha, hz, hd, h1, na, os, ag, r, w⟩, h5⟩ := hu
  obtain ⟨p1, p2, p3, p4, p5⟩ := J.pin q (List.mem_append_left _ hq)
  have ne : q.1 ≠ a := fun z => by
    rw [z, hne] at p1; cases p1
  obtain ⟨m, hns, hlk⟩ := J.loc
  obtain ⟨u1, ru, lk⟩ := hlk i n _ hn hσ (.inl hl)
  obtain rfl : u1 = Value.ref q.1 := ru
  have hm : m n = some (.ref q.1) := by
    rcases lk with ⟨_, z⟩ | ⟨z | z, _⟩
    · exact z
    · rw [hl] at z; cases z
    · rw [hl] at z; cases z
  have hns1 : s1.heap.Ns X.env.locals m := by
    obtain ⟨o, es, ep, e1, z⟩ := hns
    exact ⟨o, es, ep, k _ _ e1, z⟩
  have kc : ∀ b u, sI.heap.get? b = some u → (caH s1.heap a q.1).get? b = some u := fun b u z => by
    rw [caH_ne (fun y => by rw [← y, hne] at z; cases z)]
    exact k b u z
  have rc := r (model X.prog X.w) s1.heap (J.kIn.keeps k)
  have rt := r (model X.prog X.w) (caH s1.heap a q.1) (J.kIn.keeps kc)
  have r1 := r1 (model X.prog X.w) s1.heap (J.kIn.keeps k)
  have d4 := caO_data hd q.1
  have tb5 : ((caV vs q.1).setIfInBounds 2 (Value.ref q.1))[1]? = some Value.none := HotX.set_other (by decide) (HotX.set_other (by decide) (HotX.set_other (by decide) h1))
  refine ⟨a, oe, vs, q.2, v1, rfl, ha, hd, h1, h5 a oe vs rfl ha hd, ne, hh, k _ _ p1, hd1, hc1, fun Q' z => ?_, by rw [hz.1]; exact rc.1, r1.1, by rw [hz.1]; exact rt.2, tk _ _ (XE.new J (fun b u z => ?_) hne
    (Heap.get?_update_self _ (caH_at ha hd) (Obj.isFreed_of_fields (Obj.data_mapFields d4 _))) ⟨by rw [Obj.cls_mapFields, caO_cls]; exact hz.1, by rw [HandSPX.dict_mapFields, caO_dict]; exact hz.2.1⟩ (Obj.data_mapFields d4 _) tb5 na os ag w)⟩
  · exact wpAny_bind (wpAny_Name (wpAny_loadName_local J.ok.kind hl hns1 hm (wpAny_bind (wpAny_standAt (wpAny_pure z)))) hdb)
  · have nab : a ≠ b := fun y => by
      rw [← y, hne] at z; cases z
    show ((caH s1.heap a q.1).update a (Obj.mapFields (·.setIfInBounds 2 (.ref q.1)))).get? b = some u
    rw [Heap.get?_update_other _ _ nab]
    exact kc b u z
theorem funFrames_but {B h h' : Heap} {L : Addr} (hs : Heap.SameBut L h h') (hL : ∃ o, h'.get? L = some o ∧ ∀ vs, o.data ≠ .fields vs) : ∀ {l : List Env}, h.FunFrames B l → h'.FunFrames B l
  | [], _ => trivial
  | env :: l, f => by
    obtain ⟨f1, ⟨M, o, f2, f3, f4, f5⟩, f6⟩ := f
    refine ⟨f1, ?_, funFrames_but hs hL f6⟩
    by_cases z : M = L
    · subst z
      obtain ⟨o', q1, q2⟩ := hL
      exact ⟨M, o', f2, f3, q1, q2⟩
    · exact ⟨M, o, f2, f3, (hs.2 M z).trans f4, f5⟩
theorem held_but {B h h' : Heap} {l : List Env} {L a : Addr} {Z : Obj → Prop} (f : HandSPX.HeldZ B l a Z L h) (hs : Heap.SameBut L h h') (hB : B.get? L = none) (h0 : ∃ o, h.get? L = some o ∧ ∀ vs, o.data ≠ .fields vs) (hL : ∃ o, h'.get? L = some o ∧ ∀ vs, o.data ≠ .fields vs) : HandSPX.HeldZ B l a Z L h' := by
  obtain ⟨f1, f2, f3, oe, vs, T, oT, ts, he, hz, hd, h1, hnT, hTe, hT, hdT, h3⟩ := f
  obtain ⟨o, e0, n0⟩ := h0
  have na : a ≠ L := fun z => by rw [z, e0] at he; cases he; exact n0 _ hd
  have nT : T ≠ L := fun z => by rw [z, e0] at hT; cases hT; exact n0 _ hdT
  refine ⟨fun b u e => ?_, f2, funFrames_but hs hL f3, oe, vs, T, oT, ts, (hs.2 a na).trans he, hz, hd, h1, hnT, hTe, (hs.2 T nT).trans hT, hdT, h3⟩
  exact (hs.2 b fun z => by rw [z, hB] at e; cases e).trans (f1 b u e)
section
variable {X : Cx} {pins : List (Addr × Obj)} {σ : L2.St} {H : Hp} {s : Shared} {i : Nat} {n : Str}
theorem inv_gone {h' : Heap} {m : Str → Option Value} {v : Option Value} (I : L2.Inv X pins σ H s) (nd : X.N.Nodup) (hi : X.N[i]? = some n) (lk : ∀ (j : Nat) (y : Str) (w : V), X.N[j]? = some y → σ[j]? = some (some w) → Vis X.env.scope y → ∃ u, RelV w u ∧ Look X.env s.heap m y u)
    (ns : h'.Ns X.env.locals fun x => if x = n then v else m x) (hs : Heap.SameBut X.env.locals s.heap h') : L2.Inv X pins (σ.set i none) H { s with heap := h' } := by
  have up : ∀ {b : Addr} {o : Obj}, X.s_0.heap.get? b = some o → b ≠ X.env.locals := fun {b o} e => Nat.ne_of_lt (Nat.lt_of_lt_of_le (Heap.lt_size e) I.ok.above)
  have same : ∀ {b : Addr} {o : Obj}, b ≠ X.env.locals → s.heap.get? b = some o → h'.get? b = some o := fun {b o} nb e => (hs.2 b nb).trans e
  constructor
  · exact I.ok
  · exact I.os
  · exact I.bare
  · exact ⟨fun b o e q1 q2 q3 => same (up e) (I.base.keep b o e q1 q2 q3), fun b o e q1 q2 q3 => (I.base.slot b o e q1 q2 q3).imp fun sl z => same (up e) z, I.base.free, fun b o e q => (I.base.there b o e q).imp fun o' z => same (up e) z, I.base.tups, I.base.frzs, I.base.tbls⟩
  · refine ⟨_, ns, fun j y w q1 q2 q3 => ?_⟩
    have hj : j ≠ i := by
      rintro rfl
      rw [List.getElem?_set_self'] at q2
      cases e : σ[j]? with
      | none => rw [e] at q2; cases q2
      | some _ => rw [e] at q2; cases q2
    rw [List.getElem?_set_ne (Ne.symm hj)] at q2
    obtain ⟨u, ru, l⟩ := lk j y w q1 q2 q3
    refine ⟨u, ru, ?_⟩
    rcases l with ⟨l1, l2⟩ | ⟨l1, c, l2, l3⟩
    · exact .inl ⟨l1, by rw [← l2]; exact if_neg fun z => hj (nodup_ix nd q1 (by rw [z]; exact hi))⟩
    · exact .inr ⟨l1, c, l2, l3.sameBut hs (I.cne y c l2)⟩
  · exact fun y c e => (I.cell y c e).imp fun w z => z.sameBut hs (I.cne y c e)
  · exact I.free
  · exact I.freeC
  · intro q hq
    obtain ⟨g1, g2, g3, g4⟩ := I.pin q hq
    exact ⟨same g3 g1, g2, g3, g4⟩
  · intro b o e
    refine (I.hok b o e).stay (fun c u hc z => same ?_ z) (fun _ z => z) fun _ _ z => z
    rintro rfl
    rcases hc with hc | hc
    · rw [← hc, I.free] at e; cases e
    · rw [I.free] at hc; cases hc
  · simpa using I.len
end
theorem sky_noted {M : Model} {A : Around} {E₁ : Value → Shared → Prop} {env : Env} {outer : List Env} {B : Heap} {L a : Addr} {Z : Obj → Prop} {s : Shared} {Q : Unit → Shared → Prop} (hZ : HandSPX.Steady Z) (hfr : A.frames = some (env :: outer)) (hf : env.frame = some L)
    (x : Sky B (env :: outer) a Z L s.heap) (hQ : ∀ h', HandSPX.HeldZ B (env :: outer) a Z L h' → s.heap.UpToSlots h' → Q () { s with heap := h' }) : wpAny M A (noteFrame (.ref a) env) Q E₁ s := by
  rcases x with ⟨q1, q2, q3, oe, vs, he, hz, hd, h1⟩ | q | q
  · exact HandSPX.look_newZ hZ hfr q3 hf he q1 q2 hd h1 hz hQ
  · exact HandSPX.looks_onZ hZ hfr hf q hQ
  · exact HandSPX.againZ hf q.2.2.2 (hQ s.heap q (Heap.UpToSlots.refl _))
/-- what the clause's suite passes on -/
theorem flies_on {X : Cx} {W : WX} {pins : List (Addr × Obj)} {s : Shared} {i : Nat} {n : Str} {p : Pos} {y : Value} {hd : Option Value} (hst : X.stack = X.env :: X.outer) (hfr : X.env.frame = some X.env.locals) (hfA : X.A.frames = some (X.env :: X.outer)) (nd : X.N.Nodup) (hi : X.N[i]? = some n) (hl : X.env.kindOf n = some .local)
    (tk : Takes X W) (x : ∃ (a : Addr) (B : Heap) (sI : Shared) (σ : L2.St) (H : Hp) (cls : Value) (d : Option Addr), y = .ref a ∧ L2.Inv X pins σ H sI ∧ (∀ b o, sI.heap.get? b = some o → b ∉ frs X.stack → B.get? b = some o) ∧ sI.heap.UpToSlots s.heap ∧
      Sky B X.stack a (Zc cls d) X.env.locals s.heap ∧ H a = none ∧ s.os = sI.os ∧ AllBare s.gens ∧ W cls d (σ.set i none) H) {E₂ E₃ : Value → Shared → Prop} {R : Value → Shared → Prop} (hR : ∀ e s', X.xe e s' → R e s') :
    wpAny (model X.prog X.w) (X.A.mark hd) (noteFrame y X.env) (fun _ s3 =>
      wpAny (model X.prog X.w) (X.A.mark hd) (do bindName X.env n .none; unbindBehindTheSuite X.env n p) (fun _ s4 => wpAny (model X.prog X.w) (X.A.mark hd) (passOn "try.except-as" y X.env : Sem Flow) (fun _ _ => False) R s4) E₂ s3) E₃ s := by
  obtain ⟨a, B, sI, σ, H, cls, d, rfl, J, nb, up, sky, na, os, ag, w⟩ := x
  rw [hst] at sky
  refine sky_noted Zc.steady hfA hfr sky fun h3 k3 up3 => ?_
  have ups := up.trans up3
  obtain ⟨m, ns, lk⟩ := id J.loc
  have hcl : (X.env.scope.kind == .class || (X.env.scope.kind == .module && X.env.locals != X.env.globals)) = false := by rw [J.ok.kind]; rfl
  refine wpAny_nameGoes_keeps hl (ups.ns ns) hcl fun h4 v ns4 hs4 => ?_
  obtain ⟨o4, es4, ep4, e4, d4, r4⟩ := id ns4
  obtain ⟨o0, es0, ep0, e0, d0, r0⟩ := id ns
  obtain ⟨o3, es3, ep3, e3, d3, r3⟩ := id (ups.ns ns)
  have hm : X.env.locals ∈ frs X.stack := by
    rw [hst]
    exact List.mem_filterMap.mpr ⟨X.env, List.mem_cons_self, hfr⟩
  have bL : B.get? X.env.locals = none := by
    obtain ⟨_, ⟨M, o, f2, f3, _⟩, _⟩ := k3.2.2.1
    rw [hfr] at f2
    cases f2
    exact f3
  have k4 := held_but k3 hs4 bL ⟨o3, e3, fun vs z => by rw [d3] at z; cases z⟩ ⟨o4, e4, fun vs z => by rw [d4] at z; cases z⟩
  have hsG := Heap.SameBut.update sI.heap X.env.locals (fun _ => o4)
  have eG : (sI.heap.update X.env.locals fun _ => o4).get? X.env.locals = some o4 := Heap.get?_update_self _ e0 (Obj.isFreed_of_dict d4)
  have J4 := inv_gone J nd hi lk ⟨o4, es4, ep4, eG, d4, r4⟩ hsG
  have upG : (sI.heap.update X.env.locals fun _ => o4).UpToSlots h4 := fun b o e nf => by
    by_cases z : b = X.env.locals
    · subst z
      rw [eG] at e; cases e
      exact ⟨_, e4⟩
    · rw [hsG.2 b z] at e
      obtain ⟨sl, q⟩ := ups b o e nf
      exact ⟨sl, (hs4.2 b z).trans q⟩
  obtain ⟨f1, f2, f3, f4⟩ := id k4
  obtain ⟨oe, vs, T, oT, ts, he, hz, hd', h1, _⟩ := id f4
  unfold PySem.passOn
  refine wpAny_bind (wpAny_field he hd' h1 ?_)
  rw [if_neg (by simp : ¬ ((Value.ref T == Value.none) = true))]
  have fin : wpAny (model X.prog X.w) (X.A.mark hd) (setFlight (.ref a) X.env.frame) (fun _ s5 => wpAny (model X.prog X.w) (X.A.mark hd) (throw (.ref a) : Sem Flow) (fun _ _ => False) R s5) R { s with heap := h4, toks := s.toks + 1 } := by
    rw [hfr]
    refine HandSPX.setFlight_anyZ f1 f3 f4 fun h5 g1 g2 g3 up5 => wpAny_throw (hR _ _ (tk _ _ ⟨a, B, { sI with heap := sI.heap.update X.env.locals fun _ => o4 }, pins, σ.set i none, H, cls, d, rfl, J4, fun b o e nf => ?_, upG.trans up5, ?_, na, os, ag, w⟩))
    · have z : b ≠ X.env.locals := fun z => nf (by rw [z]; exact hm)
      rw [hsG.2 b z] at e
      exact nb b o e nf
    · rw [hst]
      exact .inr (.inr ⟨g1, f2, g2, g3⟩)
  first
    | exact wpAny_bind (wpAny_pure (wpAny_bind fin))
    | exact wpAny_bind fin
section
variable {X : Cx} {Tb : TbT} {wh : Wh} {k : Nat}
theorem GotE.raises {c fld : Str} (G : GotE X.prog X.w X.K X.mg X.base k c fld) : ∀ C, X.mg c = some (.ref C) → Raises X (.ref C) := fun C e => by
  obtain ⟨D, _, _, _, m, T, _⟩ := G.ex
  rw [m] at e; cases e
  exact raises_own T.exC T.tyC
theorem GotE0.raises {c : Str} (G : GotE0 X.K X.mg c) : ∀ C, X.mg c = some (.ref C) → Raises X (.ref C) := fun C e => by
  obtain ⟨D, m, _, _, b, t⟩ := G.ex
  rw [m] at e; cases e
  exact raises_own b t
theorem rkOk_one {c : Str} (h : ∀ C, X.mg c = some (.ref C) → Raises X (.ref C)) : ∀ n C, mt [(c, true)] n = some true → X.mg n = some (.ref C) → Raises X (.ref C) := fun n C e m => by
  unfold mt at e
  rw [List.lookup_cons] at e
  split at e
  · rename_i hq
    have := beq_iff_eq.mp hq
    subst this
    exact h C m
  · cases e
end
theorem pmk_oexY {X : Cx} {CX : CXT} {x : Str} {C fI : Addr} {k : Nat} {fd : FuncData} {ps : List Str} {sp : Sp} {ds : List Value} {dvs : List V} {e : Expr} {es : List Expr} {ta : TA} {p pos : Pos} (T : OexC X.K C) (hi : PySem.W.findIn X.K (.ref C) "__init__" = some (some (.ref fI))) (ht : PySem.W.typeIn X.K (.ref fI) = some (.type "function"))
    (F1 : FnOk X.prog X.w X.K X.mg X.base CX k fI fd ps sp) (hr : Room (k + 1) X.A) (hb : Binds X.K fd ps ds) (hd : Vals dvs ds) (hx : Passes CX X (fun _ _ _ => False)) (hg : Gl X x) (hm : X.mg x = some (.ref C)) (ha : PA X (e :: es) ta)
    (hdb : (x == ("__debug__" : Str)) = false) (he : starEach (e :: es) X.env = (false, eval e X.env) :: starEach es X.env) (hpl : (backTo pos (starEach es X.env)).any (·.1) = false) :
    L2N.PMk X (.Call (.Name x p) (e :: es) [] pos) (tMkO C sp dvs ta) := by
  intro pins s σ H Q I h
  obtain ⟨nm, qn, N, bs, bm, sn, sub, ab, col, dd, k0, k1, k2, k3, k5, hC, hbm⟩ := T.cls
  refine wpAny_Call_Name_kw (ld_glob I hg hm (PySem.W.callWith_K (h₀ := X.base) I.ok.mod.kin T.kC (thn (ha.run pos pins s σ H _ I h) fun us t ⟨vs, G, J, rv, hz, q1⟩ => ⟨J.kIn, ?_⟩) he hpl) hdb)
  obtain ⟨hp, g, dr, tk, os⟩ := t
  have above : hp.objs.size ≤ hp.objs.size + 1 := Nat.le_succ _
  have hq := q1 (hp.objs.size + 1) (J.hok.fresh above)
  have grow : ∀ b o, hp.get? b = some o → ((hp.push (PySem.W.kdv_tup us)).push (PySem.HandSPX.excO C hp.objs.size)).get? b = some o := fun b o y => Heap.get?_push_of_some _ (Heap.get?_push_of_some _ y)
  have here : ((hp.push (PySem.W.kdv_tup us)).push (PySem.HandSPX.excO C hp.objs.size)).get? (hp.objs.size + 1) = some (PySem.HandSPX.excO C hp.objs.size) := by heap_get
  have J2 : Inv X pins σ (upd G (hp.objs.size + 1) (exo (hp.objs.size + 1) C none)) ⟨(hp.push (PySem.W.kdv_tup us)).push (PySem.HandSPX.excO C hp.objs.size), g, dr, tk, os⟩ :=
    J.laid (a := hp.objs.size + 1) (o := exo (hp.objs.size + 1) C none) (h' := (hp.push (PySem.W.kdv_tup us)).push (PySem.HandSPX.excO C hp.objs.size)) (t' := tk) grow above (L2.exo_ok here)
  have rall : Vals (V.ref (hp.objs.size + 1) :: (vs ++ dvs)) (Value.ref (hp.objs.size + 1) :: (us ++ ds)) := .cons rfl (rv.append hd)
  have len : (Value.ref (hp.objs.size + 1) :: us ++ ds).length = ps.length := by
    have y := rall.length
    rw [F1.len _ _ _ _ hq] at y
    exact y.symm
  have few : us.length ≤ sizeLine := by
    rw [← Paired.length rv, sizeLine_eq]
    omega
  refine wpAny_call (PySem.HandSPX.call_own PySem.F.excBase_ValueError (fun Y => PySem.HandSPX.refsVE_contains Y bm hbm) (J.kIn _ _ hC) (PySem.W.looks_findIn J.kIn hi) (fun self => PySem.W.bind_fn J.kIn self ht) few
    (codeAny_mono (F1.run _ X.stack _ _ ⟨Value.ref (hp.objs.size + 1) :: us, []⟩ (Value.ref (hp.objs.size + 1) :: (us ++ ds)) _ _ (fun _ _ _ => False) (hr.make C us []) (J2.env0.make C us []) (hb _ (Value.ref (hp.objs.size + 1) :: us) J2.kIn len) rall hq) fun r t2 hr2 => ?_))
  cases r with
  | error er => exact hx pins σ _ _ er t2 J2 hr2
  | ok fl =>
    cases fl with
    | ret u =>
      obtain ⟨v, H2, ro, rb, un2, hok2, ru, ev, d, fs, ea, ed, hd1, q2⟩ := hr2
      subst ev
      obtain ⟨h2, g2, d2, t2', os'⟩ := t2
      obtain ⟨t0, G', J3, kG, ge, hoe, na⟩ := mk_end0 (d2 := d2) (t2 := t2') J above grow un2 hok2 ro rb ea ed hd1
      exact ⟨ru, _, _, _, ⟨G', g2, d2, t2', os'⟩, _, .ref C, some d, rfl, J3, kG, ge, hoe, ⟨rfl, rfl, fun ws y => by cases y; rfl⟩, rfl, rfl, na, rfl, rb, raises_own T.exC T.tyC, q2⟩
    | next => exact hr2.elim
    | brk => exact hr2.elim
    | cont => exact hr2.elim
section
variable {X : Cx} {Tb : TbT} {x fld : Str} {p p2 p3 pos : Pos} {e : Expr} {es : List Expr} {ps : List Str} {k j : Nat} {fl : List Bool} {g : List D → Option ((D ⊕ Ex) × List D)} {os : List Opd} {wh : Wh} {f : Df}
/-- a def whose exceptions have no context -/
structure GotXY (P : Program) (w : World) (K : Fr) (mg : Str → Option Value) (base : Heap) (k : Nat) (x : Str) (ps : List Str) (sp : Sp) : Prop where
  ex : ∃ (f : Addr) (fd : FuncData), FnOk P w K mg base (L2N.CX P w) k f fd ps sp ∧ mg x = some (.ref f) ∧ PySem.W.keepIn K (.ref f) = true ∧ Binds K fd ps []
theorem dS_raiseGY (hc : X.calm = true) (tk : L2N.Takes X wh.W) (G : GotE X.prog X.w X.K X.mg X.base k x fld) (hr : Room j X.A) (hg : Gl X x) (he : PE X e (tD (X.kg Tb) f)) (hj : k + 1 ≤ j := by decide) (hdb : (x == ("__debug__" : Str)) = false := by decide) (hse : starEach [e] X.env = (false, eval e X.env) :: starEach [] X.env := by rfl) :
    PS X (.Raise (some (.Call (.Name x p) [e] [] pos)) none p3) (tS (X.kg Tb) wh (sRaise x fld f)) := by
  obtain ⟨C, fI, fd, ps, m, T, iC, tI, F1, b⟩ := G.ex
  refine PSi (L2N.ps_raise hc tk (pmk_oexY T iC tI F1 (hr.mono hj) b .nil pass0 hg m (pa_cons he pa_nil hse) hdb hse rfl)) fun E σ H ⟨B, F, env, r, S, ef, kk⟩ => ?_
  obtain ⟨⟨d, e1⟩, q, ef⟩ := bd ef
  cases ef
  refine ⟨B, F, env, d, e1, S, q, fun v F1 H1 S1 s1 hd => ⟨by simp, fun a ha => ⟨a, v, rfl, upd_same, fun dx hdx hne => ⟨rfl, dx, [(fld, v)], upd_same, by rw [upd_ne hne]; exact upd_same, ?_, ?_⟩⟩⟩⟩
  · rw [upd_ne hne] at hdx; exact hdx
  · have h1 : H1 dx = none := by rw [upd_ne hne] at hdx; exact hdx
    rw [raised_heap ha hne]
    exact kk (.ref C) (some dx) σ F1 _ (S1.laid h1) s1 ⟨⟨C, m, rfl⟩, dx, v, rfl, S1.fresh h1, S1.neX h1, S1.fh.none h1, upd_same, hd⟩
end
theorem okXY {P : Program} {w : World} {K : Fr} {mg : Str → Option Value} {base : Heap} {x : Str} {st : Stmt} {f : Addr} {fd : FuncData} {N ps : List Str} {k : Nat} {sp : Sp} (F : FnP K x st f fd) (S : FnScope N ps (defScope st)) (len : ∀ vs H Q E, sp vs H Q E → vs.length = ps.length)
    (body : ∀ (cdv : Value) (A : Around) (outer : List Env) (s : Shared) (H : Hp) (vs : List V) (Q : VK) (E : XK), Room k (A.deeper (PyProof.Rows.envOfC x (defScope st) s.heap.objs.size f cdv)) → sp vs H Q E →
      L2N.Takes (cxOf (L2N.CX P w) P w K mg base N x (defScope st) f cdv A outer s H E) (fun cls d _ H => E cls d H) →
      ∃ t, PSs (cxOf (L2N.CX P w) P w K mg base N x (defScope st) f cdv A outer s H E) (defBody st) t ∧ t { nx := fun _ H' => Q .non H', rt := Q } (L2.start N vs) H) : FnOk P w K mg base (L2N.CX P w) (k + 1) f fd ps sp :=
  F.ok S len fun cdv A outer s H vs Q E hr hsp => body cdv A outer s H vs Q E hr hsp (L2N.takes_of rfl rfl rfl rfl)
end DL
namespace DL
open PySem PySem.Spec PyProof.Rows L2
open Sem (wp)
namespace ZS
abbrev IsZipS (h : Heap) (z TI TO : Addr) (f0 : Value) : Prop :=
  h.get? z = some { cls := .type "zip", dict := none, data := .fields #[f0, .bool false, .bool true, .ref TI, .ref TO], slots := #[] }
abbrev kwS : List (Str × Value) := [(Str.ofString "strict", .bool true)]
theorem typeCall_s (a b : Value) : checkTypeCall "zip" ⟨[a, b], kwS⟩ = pure () := by kernel_rfl
theorem newCall_s (a b : Value) : checkBuiltinCall "zip.__new__" ⟨[.type "zip", a, b], kwS⟩ = pure () := by kernel_rfl
theorem args_init_s (a b c : Value) : argsOk "object.__init__" ⟨[a, b, c], kwS⟩ := by
  unfold argsOk; rw [signature?_of (id := "object.__init__") (n := ['_', '_', 't', 'i', 'n', 'i', '_', '_']) (o := ['t', 'c', 'e', 'j', 'b', 'o']) (by kernel_rfl) F.owner_object]; kernel_rfl
section
variable {prog : Program} {w : World} {A : Around} {E : Value → Shared → Prop} {s : Shared}
theorem stop_s {Q : Fin → Shared → Prop} (hh : A.handled = none) (hE : ∀ h' e, (∀ c o, s.heap.get? c = some o → h'.get? c = some o) → (∃ o, h'.get? e = some o ∧ o.cls = .type "StopIteration") → E (.ref e) { s with heap := h' }) :
    wpAny (model prog w) A (Builtin.SmallTypes.stopIteration : Sem Fin) Q E s := by
  show wpAny _ _ (newExc (.type "StopIteration") [] >>= _) _ _ _
  refine wpAny_bind ?_
  simp only [newExc, newTuple]
  refine wpAny_bind (wpAny_newObj_type ?_ (by size_fits))
  refine wpAny_bind (m := firstArgMember _ _) (wpAny_of_eq (a := Value.none) (by first | rfl | (simp only [firstArgMember]; rfl)) ?_)
  refine wpAny_newObj_type ?_ (by size_fits)
  simp only [raiseNew]
  refine wpAny_bind (wpAny_handled ?_)
  rw [hh]
  refine wpAny_bind (wpAny_pure (wpAny_throw ?_))
  exact hE _ _ (fun c o q => Heap.get?_push_of_some _ (Heap.get?_push_of_some _ q)) ⟨_, Heap.get?_push_size _ rfl, rfl⟩
theorem go_s {elts : List Expr} {x1} {pos : Pos} {z TI TO T : Addr} {Q : Unit → Shared → Prop} (hz : IsZipS s.heap z TI TO (rawInt T))
    (fin : ∀ h', IsZipS h' z TI TO .none → Heap.SameBut z s.heap h' → Q () { s with heap := h' }) :
    wpAny (model prog w) A (letOwnedTupleGo (.Tuple elts x1 pos) (.ref z) (.ref T)) Q E s := by
  unfold letOwnedTupleGo
  refine wpAny_bind (wpAny_load hz ?_)
  show wpAny _ _ (if (["enumerate", "zip", "dict_itemiterator", "dict_reverseitemiterator", "odict_iterator", "itertools.zip_longest", "itertools.pairwise"].contains "zip" &&
      (#[rawInt T, .bool false, .bool true, .ref TI, .ref TO] : Array Value)[0]? == some (rawInt T)) = true then _ else _) Q E s
  rw [if_pos (by simp)]
  refine wpAny_bind (wpAny_rule ?_)
  show wpAny _ _ (setField (.ref z) 0 .none) Q E s
  exact wpAny_setField_rec hz (by simp) fun h' hz' hs' => fin h' hz' hs'
theorem self_s {z TI TO : Addr} {f0 : Value} {Q : Value → Shared → Prop} (hz : IsZipS s.heap z TI TO f0) (h : Q (.ref z) s) : wpAny (model prog w) A (pyIter (.ref z)) Q E s := by
  have hT : s.TypeIs (.ref z) "zip" := ⟨_, hz, rfl⟩
  refine wpAny_pyIter_slot hT F.slot_zip_iter (wpAny_call_entry F.slot_zip_iter hT F.entry_zip_iter ?_ (F.args_zip_iter_1 _))
  show wpAny _ _ (ret (.ref z)) _ _ s
  exact wpAny_pure ⟨_, rfl, "zip", _, hT, F.slot_zip_next.lookup, h⟩
end
/-- the lists at a and b at each turn; both end together -/
def ItS (K : PySem.W.Frag) (a b : Addr) : It :=
  ⟨fun i H => ∃ (xs ys : List V) (x y : V), SqL K H a xs ∧ SqL K H b ys ∧ xs[i]? = some x ∧ ys[i]? = some y,
    fun i H v H' => ∃ T x y, v = .ref T ∧ H T = none ∧ H' = upd H T (.tup [x, y]) ∧ (∀ xs, SqL K H a xs → xs[i]? = some x) ∧ ∀ ys, SqL K H b ys → ys[i]? = some y,
    fun i H => ∃ xs ys : List V, SqL K H a xs ∧ SqL K H b ys ∧ xs.length ≤ i ∧ ys.length ≤ i⟩
section
variable {M : Model} {A : Around} {E : Value → Shared → Prop} {s : Shared} {env : Env}
theorem callWith_typeK {pos : Pos} {T : String} {args : List (Bool × Sem Value)} {keywords : List (Option Str × Sem Value)} {Q : Value → Shared → Prop}
    (hplain : args.any (·.1) = false) (hkw : keywords.any (·.1.isNone) = false)
    (h : wpAny M A (evalArgs (.type T) true args keywords) (fun a s₁ => wpAny M A (call (.type T) a.pos a.kw) Q E s₁) E s) :
    wpAny M A (callWith pos (.type T) [] args keywords) Q E s := by
  unfold callWith
  refine wpAny_bind (wpAny_holding (wpAny_mono h (fun a s₁ h₁ => wpAny_bind (wpAny_standAt ?_)) fun _ _ x => x))
  simp only [hplain, hkw, Bool.or_false]
  refine wpAny_bind (wpAny_pure ?_)
  exact wpAny_bind (wpAny_mono h₁ (fun r s₂ hr => wpAny_bind (wpAny_holding (wpAny_point (wpAny_pure hr)))) fun _ _ x => x)
end
def iZipQ (K : PySem.W.Frag) (ta : TA) : TI := fun σ H R => ta σ H fun vs H1 => ∃ a b xs ys, vs = [.ref a, .ref b] ∧ SqL K H1 a xs ∧ SqL K H1 b ys ∧ R (ItS K a b) H1
end ZS
end DL
namespace DL
open PySem PySem.Spec PyProof.Rows L2
end DL
namespace DL
open PySem PySem.Spec PyProof.Rows L2
end DL
namespace DL
open PySem PySem.Spec PyProof.Rows L2
end DL
namespace DL
open PySem PySem.Spec PyProof.Rows L2
inductive Op3 where
  | d (f : Df) | t (i : Nat)
def Op3.ev : Op3 → En → Option ((D ⊕ Nat) × En)
  | .d f, env => (f env).bind fun r => some (.inl r.1, r.2)
  | .t i, env => match env[i]? with
    | some (.tr _ _) => some (.inr i, env)
    | _ => none
def evB : List Op3 → En → Option (List (D ⊕ Nat) × En)
  | [], env => some ([], env)
  | o :: r, env => (o.ev env).bind fun t => (evB r t.2).bind fun z => some (t.1 :: z.1, z.2)
def lookB : List (D ⊕ Nat) → En → Option (List D)
  | [], _ => some []
  | .inl d :: us, e => (lookB us e).bind fun ds => some (d :: ds)
  | .inr i :: us, e => match e[i]? with
    | some (.tr s d) => if s.flat = true then (lookB us e).bind fun ds => some (d :: ds) else none
    | _ => none
def OBr (K : Fg) (F : Hp) (σ : L2.St) : D ⊕ Nat → V → Prop
  | .inl d, v => Dt K F v d
  | .inr i, v => σ[i]? = some (some v)
def OBA (K : Fg) (F : Hp) (σ : L2.St) : List (D ⊕ Nat) → List V → Prop
  | [], [] => True
  | u :: us, v :: vs => OBr K F σ u v ∧ OBA K F σ us vs
  | _, _ => False
theorem OBr.mono {K : Fg} {F G : Hp} {σ : L2.St} {u : D ⊕ Nat} {v : V} (h : OBr K F σ u v) (s : Sub F G) : OBr K G σ u v := by
  cases u with
  | inl d => exact Dt.mono s h
  | inr i => exact h
def tArB (K : Fg) (os : List Op3) : TA := fun σ H Q => ∃ B F env us env', Sl K B F H σ env ∧ evB os env = some (us, env') ∧ ∀ vs F' H', Sl K B F' H' σ env' → Sub F F' → OBA K F' σ us vs → Q vs H'
section
variable {X : Cx} {Tb : TbT} {e : Expr} {es : List Expr} {pos : Pos}
theorem db_nil : PA X [] (tArB (X.kg Tb) []) := PAi pa_nil fun σ H Q ⟨B, F, env, us, env', S, ef, k⟩ => by
  cases ef
  exact k [] F H S (Sub.refl F) trivial
theorem db_t {i : Nat} {x : Str} {p1 : Pos} {os : List Op3} (hr : PA X es (tArB (X.kg Tb) os)) (hN : X.N[i]? = some x := by rfl) (hv : Vis X.env.scope x := by first | exact Or.inl rfl | exact Or.inr (Or.inl rfl) | exact Or.inr (Or.inr rfl)) (hd : (x == ("__debug__" : Str)) = false := by decide) (hcd : (x == ("__classdict__" : Str)) = false := by decide)
    (hs : starEach (.Name x p1 :: es) X.env = (false, eval (.Name x p1) X.env) :: starEach es X.env := by rfl) : PA X (.Name x p1 :: es) (tArB (X.kg Tb) (.t i :: os)) :=
  PAi (pa_cons (pe_var hN hv hd hcd) hr hs) fun σ H Q ⟨B, F, env, us, env', S, ef, k⟩ => by
    obtain ⟨⟨u, e1⟩, q, ef⟩ := Option.bind_eq_some_iff.mp (show ((Op3.t i).ev env).bind (fun t => (evB os t.2).bind fun z => some (t.1 :: z.1, z.2)) = some (us, env') from ef)
    obtain ⟨⟨us', e2⟩, q2, ef⟩ := Option.bind_eq_some_iff.mp ef
    cases ef
    have q : (match env[i]? with
      | some (.tr _ _) => some ((Sum.inr i : D ⊕ Nat), env)
      | _ => none) = some (u, e1) := q
    split at q
    · rename_i s d z
      cases q
      obtain ⟨v, L, h1, _⟩ := S.tr i s d (.inl z)
      exact ⟨v, h1, B, F, env, us', _, S, q2, fun vs F2 H2 S2 s2 h2 => k (v :: vs) F2 H2 S2 s2 ⟨h1, h2⟩⟩
    · cases q
end
/-- the parts of some trees are among the others for a while -/
def lend (N : List Addr) (F H : Hp) : Hp := fun p => if p ∈ N then H p else er F p
def unlend (N : List Addr) (F : Hp) : Hp := fun p => if p ∈ N then none else F p
/-- what stands at the lent addresses -/
def LentOk (F H : Hp) (N : List Addr) : Prop := ∀ p ∈ N, ∃ o m, H p = some o ∧ F p = some (.own m) ∧ Nf o
theorem lend_sub {F H : Hp} {N : List Addr} (l : LentOk F H N) : Sub F (lend N F H) := fun a o h m => by
  unfold lend
  by_cases n : a ∈ N
  · obtain ⟨_, k, _, z, _⟩ := l a n
    rw [h] at z; cases z; cases m
  · rw [if_neg n]; exact er_sub F a o h m
theorem lend_at {F H : Hp} {N : List Addr} {p : Addr} (n : p ∈ N) : lend N F H p = H p := if_pos n
theorem lend_out {F H : Hp} {N : List Addr} {p : Addr} (n : p ∉ N) : lend N F H p = er F p := if_neg n
theorem args_b {K : Fg} {B : Bs} {F H : Hp} {σ : L2.St} {env : En} (S : Sl K B F H σ env) : ∀ {us : List (D ⊕ Nat)} {vs : List V} {ds : List D}, OBA K F σ us vs → lookB us env = some ds →
    ∃ N, LentOk F H N ∧ ∀ N', LentOk F H N' → (∀ p ∈ N, p ∈ N') → ∀ n, ArgsOk K (lend N' F H) H n (us.map fun _ => false) vs ds []
  | [], [], _, _, e => by cases e; exact ⟨[], (fun _ h => nomatch h), fun N' _ _ n => .nil⟩
  | [], _ :: _, _, h, _ => h.elim
  | _ :: _, [], _, h, _ => h.elim
  | .inl d :: us, v :: vs, ds, ⟨h1, h2⟩, e => by
    obtain ⟨ds', q, e⟩ := bd (show (lookB us env).bind (fun ds => some (d :: ds)) = some ds from e)
    cases e
    obtain ⟨N, a, b⟩ := args_b S h2 q
    exact ⟨N, a, fun N' l s n => .fz (Dt.mono (lend_sub l) h1) (b N' l s (n + 1))⟩
  | .inr i :: us, v :: vs, ds, ⟨h1, h2⟩, e => by
    have e : (match env[i]? with
      | some (.tr s d) => if s.flat = true then (lookB us env).bind fun ds => some (d :: ds) else none
      | _ => none) = some ds := e
    split at e
    · rename_i s d z
      split at e
      · rename_i f
        obtain ⟨ds', q, e⟩ := bd e
        cases e
        obtain ⟨N, a, b⟩ := args_b S h2 q
        obtain ⟨v', L, g1, g2, g3, g4⟩ := S.tr i s d (.inl z)
        have h1 : σ[i]? = some (some v) := h1
        rw [h1] at g1; cases g1
        have nf := g2.nf f
        refine ⟨L.map (·.1) ++ N, fun p hp => ?_, fun N' l s n => .fz (g2.froze (lend_sub l) f fun q hq => ?_) (b N' l (fun p hp => s p (List.mem_append_right _ hp)) (n + 1))⟩
        · rcases List.mem_append.mp hp with hp | hp
          · obtain ⟨q, hq, rfl⟩ := List.mem_map.mp hp
            exact ⟨q.2, i, (g4 q hq).1, (g4 q hq).2, nf q hq⟩
          · exact a p hp
        · rw [lend_at (s q.1 (List.mem_append_left _ (List.mem_map_of_mem hq)))]
          exact (g4 q hq).1
      · cases e
    · cases e
theorem evB_len : ∀ {os : List Op3} {env e1 : En} {us : List (D ⊕ Nat)}, evB os env = some (us, e1) → us.length = os.length
  | [], _, _, _, e => by cases e; rfl
  | o :: os, env, e1, us, e => by
    obtain ⟨⟨u, e1⟩, q, e⟩ := bd (show (o.ev env).bind (fun t => (evB os t.2).bind fun z => some (t.1 :: z.1, z.2)) = some (us, _) from e)
    obtain ⟨⟨us', e2⟩, q2, e⟩ := bd e
    cases e
    rw [List.length_cons, List.length_cons, evB_len q2]
end DL
namespace DL
open PySem L2
end DL
namespace DL
open PySem L2
theorem Takes.un {X : Cx} {W : WX} (t : Takes X W) : Takes X fun cls d σ H => Un X H (W cls d σ) := fun u s' ⟨a, B, sI, pins, σ, H, cls, d, e, I, nb, up, sky, na, os, ag, w⟩ => by
  rcases w with w | ⟨q, od, ub, h, n, w⟩
  · exact t u s' ⟨a, B, sI, pins, σ, H, cls, d, e, I, nb, up, sky, na, os, ag, w⟩
  · refine t u s' ⟨a, B, sI, pins, σ, _, cls, d, e, I.unlock h n, nb, up, sky, ?_, os, ag, w⟩
    have ne : a ≠ q := fun z => by rw [z, h] at na; cases na
    rw [upd_ne ne]
    exact na
end DL
namespace DL
open PySem PySem.Spec PyProof.Rows L2
end DL
namespace DL
open PySem PySem.Spec PyProof.Rows L2
end DL
namespace DL
open PySem PySem.Spec PyProof.Rows L2
section
variable {X : Cx} {Tb : TbT} {o : Expr} {x : Str} {p1 apos cpos : Pos}
def frz (j : Nat) (env : En) : Option En := match env[j]? with
  | some (.ow d) => some (env.set j (.fz d))
  | some (.fz _) => some env
  | _ => none
theorem TrA.snoc {K : Fg} {F : Hp} {v : V} {d : D} {N : Nodes} : ∀ {s : Sh} {vs : List V} {ds : List D} {L : Nodes}, TrA K F s vs ds L → Tr K F s v d N → TrA K F s (vs ++ [v]) (ds ++ [d]) (L ++ N)
  | _, _, _, _, .nil, h => by
    have := TrA.cons h (TrA.nil (K := K) (F := F))
    simpa using this
  | _, _, _, _, .cons (L := L) (M := M) h t, h2 => by
    have := TrA.cons h (TrA.snoc t h2)
    simpa [List.append_assoc] using this
theorem TrA.len {K : Fg} {F : Hp} : ∀ {s : Sh} {vs : List V} {ds : List D} {L : Nodes}, TrA K F s vs ds L → vs.length = ds.length
  | _, _, _, _, .nil => rfl
  | _, _, _, _, .cons _ t => by rw [List.length_cons, List.length_cons, t.len]
end
end DL
namespace DL
open PySem L2
end DL
namespace DL
open PySem L2
end DL
namespace DL
open PySem L2
end DL
namespace DL
open PySem L2
end DL
namespace DL
open PySem L2
end DL
namespace DL
open PySem L2
theorem OutsOk.none {K : Fg} {F H : Hp} : ∀ {M : List (Nat × Addr)} {os : List D}, OutsOk K F H M os → ∀ q ∈ M, F q.2 = .none
  | [], _, _, _, h => nomatch h
  | q :: M, [], h, _, _ => h.elim
  | q :: M, d :: os, h, r, hr => by
    rcases List.mem_cons.mp hr with rfl | hr
    · exact h.1.1
    · exact OutsOk.none h.2 r hr
end DL
namespace DL
open PySem L2
end DL
namespace DL
open PySem L2
theorem set_ow {i j : Nat} {x : Sv} {e : En} {y : D} (hi : i < e.length) (hx : (∀ d, x ≠ .ow d) ∧ ∀ d, x ≠ .pw d) (o : IsOw (e.set i x) j y) : j ≠ i ∧ IsOw e j y := by
  rcases o with o | o
  · rcases set_other hi o with ⟨_, w⟩ | ⟨a, b⟩
    · exact absurd w.symm (hx.1 _)
    · exact ⟨a, .inl b⟩
  · rcases set_other hi o with ⟨_, w⟩ | ⟨a, b⟩
    · exact absurd w.symm (hx.2 _)
    · exact ⟨a, .inr b⟩
end DL
namespace DL
open PySem PySem.Spec PyProof.Rows L2
theorem OVA.fzs {K : Fg} {F : Hp} {σ : L2.St} : ∀ {vs : List V} {ds : List D}, DtA K F vs ds → OVA K F σ (ds.map .fz) vs
  | _, _, .nil => trivial
  | _, _, .cons h t => ⟨h, OVA.fzs t⟩
end DL
namespace DL
open PySem PySem.Spec PyProof.Rows L2
def shSet (f : Str) (s : Sh) : Sh → Sh
  | .cn g s0 r => if g = f then .cn g s r else .cn g s0 (shSet f s r)
  | _ => .cn f s .nl
theorem TrO.put {K : Fg} {F : Hp} {f : Str} {v : V} {d : D} {s : Sh} {N : Nodes} (r : Tr K F s v d N) : ∀ {sh : Sh} {fs : List (Str × V)} {es : List (D × D)} {L : Nodes}, TrO K F sh fs es L →
    ∃ La Lb Lc, L = La ++ (Lb ++ Lc) ∧ TrO K F (shSet f s sh) (putF f v fs) (fldSet f d es) (La ++ (N ++ Lc))
  | _, _, _, _, .nil => ⟨[], [], [], rfl, by
    have := TrO.cons (f := f) r (TrO.nil (K := K) (F := F))
    simpa [shSet, putF, fldSet] using this⟩
  | _, _, _, _, .cons (f := g) (L := L) (M := M) (v := w) (vs := vs) (d := d0) (ds := ds) h t => by
    by_cases hk : g = f
    · subst hk
      refine ⟨[], L, M, rfl, ?_⟩
      have := TrO.cons (f := g) r t
      simpa [shSet, putF, fldSet] using this
    · obtain ⟨La, Lb, Lc, e, t'⟩ := TrO.put r t
      refine ⟨L ++ La, Lb, Lc, by rw [e]; simp, ?_⟩
      have := TrO.cons (f := g) h t'
      simpa [shSet, putF, fldSet, hk] using this
theorem TrO.len {K : Fg} {F : Hp} : ∀ {sh : Sh} {fs : List (Str × V)} {es : List (D × D)} {L : Nodes}, TrO K F sh fs es L → fs.length = es.length
  | _, _, _, _, .nil => rfl
  | _, _, _, _, .cons _ t => by rw [List.length_cons, List.length_cons, TrO.len t]
end DL
namespace DL
open PySem PySem.Spec PyProof.Rows L2
mutual
def clean : D → Bool
  | .none => true
  | .bool _ => true
  | .int _ => true
  | .str _ => true
  | .list _ => false
  | .tuple ds => cleanA ds
  | .dict _ => false
def cleanA : List D → Bool
  | [] => true
  | d :: ds => clean d && cleanA ds
end
/-- no tuple among the parts -/
def Sh.notp : Sh → Bool
  | .fz => true
  | .ls s => s.notp
  | .dk s => s.notp
  | .dt s => s.notp
  | .tp _ => false
  | .ob _ r => r.notp
  | .lp _ => false
  | .dr r => r.notp
  | .nl => true
  | .cn _ s r => s.notp && r.notp
def AllNt (L : Nodes) : Prop := ∀ q ∈ L, ∀ xs, q.2 ≠ .tup xs
theorem AllNt.nil : AllNt [] := fun _ h => nomatch h
theorem AllNt.cons {p : Addr} {o : HO} {L : Nodes} (h : ∀ xs, o ≠ .tup xs) (t : AllNt L) : AllNt ((p, o) :: L) := fun q hq => by
  rcases List.mem_cons.mp hq with rfl | hq
  · exact h
  · exact t q hq
theorem AllNt.app {L M : Nodes} (h : AllNt L) (t : AllNt M) : AllNt (L ++ M) := fun q hq => (List.mem_append.mp hq).elim (h q) (t q)
theorem Tr.nt {K : Fg} {F : Hp} {s : Sh} {v : V} {d : D} {L : Nodes} (h : Tr K F s v d L) : s.notp = true → AllNt L := by
  refine Tr.rec (motive_1 := fun s _ _ L _ => s.notp = true → AllNt L) (motive_2 := fun s _ _ L _ => s.notp = true → AllNt L) (motive_3 := fun s _ _ L _ => s.notp = true → AllNt L) (motive_4 := fun s _ _ L _ => s.notp = true → AllNt L)
    (motive_5 := fun _ _ _ _ _ => True) (motive_6 := fun s _ _ L _ => s.notp = true → AllNt L) (motive_7 := fun s _ _ L _ => s.notp = true → AllNt L) ?_ ?_ ?_ ?_ ?_ ?_ ?_ ?_ ?_ ?_ ?_ ?_ ?_ ?_ ?_ ?_ ?_ ?_ ?_ ?_ h
  · exact fun _ _ => AllNt.nil
  · exact fun _ ih f => AllNt.cons (fun _ h => by cases h) (ih f)
  · exact fun _ ih f => AllNt.cons (fun _ h => by cases h) (ih f)
  · exact fun _ ih f => AllNt.cons (fun _ h => by cases h) (ih f)
  · exact fun _ ih f => nomatch f
  · exact fun _ _ ih f => AllNt.cons (fun _ h => by cases h) (ih f)
  · exact fun _ ih f => nomatch f
  · exact fun _ ih f => AllNt.cons (fun _ h => by cases h) (ih f)
  · exact fun _ => AllNt.nil
  · exact fun _ _ ih1 ih2 f => (ih1 f).app (ih2 f)
  · exact fun _ => AllNt.nil
  · exact fun _ _ ih1 ih2 f => (ih1 f).app (ih2 f)
  · exact fun _ => AllNt.nil
  · exact fun _ _ ih1 ih2 f => (ih1 f).app (ih2 f)
  · trivial
  · exact fun _ _ _ _ => trivial
  · exact fun _ => AllNt.nil
  · exact fun _ _ ih1 ih2 f => (ih1 (Bool.and_eq_true_iff.mp f).1).app (ih2 (Bool.and_eq_true_iff.mp f).2)
  · exact fun _ => AllNt.nil
  · exact fun _ _ ih1 ih2 f => (ih1 (Bool.and_eq_true_iff.mp f).1).app (ih2 (Bool.and_eq_true_iff.mp f).2)
def lendF (L : Nodes) (F H : Hp) : Hp := fun a => if a ∈ L.map (·.1) then H a else F a
/-- what is so of a name's tree -/
structure LentT (K : Fg) (F H : Hp) (σ : L2.St) (env : En) (i : Nat) (s : Sh) (d : D) (p : Addr) (L : Nodes) : Prop where
  at_ : IsTr env i s d
  ob : ∃ c r, s = .ob c r
  v : σ[i]? = some (some (.ref p))
  t : Tr K F s (.ref p) d L
  nd : Ndp L
  on : ∀ q ∈ L, H q.1 = some q.2 ∧ F q.1 = some (.own i)
  pin : p ∈ L.map (·.1)
  nf : AllNf L
  nt : AllNt L
  fl : s.flat = true
section
variable {K : Fg} {B : Bs} {F H : Hp} {σ : L2.St} {env : En} {i : Nat} {s : Sh} {d : D} {p : Addr} {L : Nodes}
theorem LentT.inL (T : LentT K F H σ env i s d p L) {a : Addr} (h : a ∈ L.map (·.1)) : F a = some (.own i) ∧ ∃ o, H a = some o ∧ Nf o ∧ ∀ xs, o ≠ .tup xs := by
  obtain ⟨q, hq, rfl⟩ := List.mem_map.mp h
  exact ⟨(T.on q hq).2, q.2, (T.on q hq).1, T.nf q hq, T.nt q hq⟩
theorem LentT.sub (T : LentT K F H σ env i s d p L) : Sub F (lendF L F H) := fun a o e m => by
  unfold lendF
  by_cases h : a ∈ L.map (·.1)
  · rw [(T.inL h).1] at e; cases e; cases m
  · rw [if_neg h]; exact e
end
end DL
namespace DL
open PySem PySem.Spec PyProof.Rows L2
end DL
namespace DL
open PySem PySem.Spec PyProof.Rows L2
end DL
namespace DL
open PySem PySem.Spec PyProof.Rows L2
theorem WalkV.ext {H H' : Hp} (h : ∀ a o, H a = some o → H' a = some o) : ∀ {π : List Stp} {v w : V}, WalkV H v π w → WalkV H' v π w
  | [], _, _, e => e
  | st :: π, _, _, ⟨u, s, t⟩ => ⟨u, by
    cases st with
    | fd f => obtain ⟨p, C, dx, fs, a, b, c⟩ := s; exact ⟨p, C, dx, fs, a, h _ _ b, c⟩
    | ky k => obtain ⟨p, kvs, a, b, c⟩ := s; exact ⟨p, kvs, a, h _ _ b, c⟩
    | kt k => obtain ⟨p, kvs, a, b, c⟩ := s; exact ⟨p, kvs, a, h _ _ b, c⟩
    | ix n => obtain ⟨p, vs, a, b, c⟩ := s; exact ⟨p, vs, a, b.imp (h _ _) (h _ _), c⟩, WalkV.ext h t⟩
end DL
namespace DL
open PySem PySem.Spec PyProof.Rows L2
end DL
namespace DL
open PySem PySem.Spec PyProof.Rows L2
def mTr (i : Nat) : Mf := fun env => match env[i]? with
  | some (.tr s d) => some (s, d, env.set i .un)
  | _ => none
section
variable {K : Fg} {B : Bs} {F H : Hp} {σ : L2.St} {env : En}
theorem Sl.dropT (S : Sl K B F H σ env) {i : Nat} {s : Sh} {d : D} (e : env[i]? = some (.tr s d)) : ∃ v L F', σ[i]? = some (some v) ∧ Sub F F' ∧ Sl K B F' H σ (env.set i .un) ∧ Tr K F' s v d L ∧ Ndp L ∧ Loose B F' H σ (env.set i .un) L := by
  obtain ⟨v, L, h1, h2, h3, h4⟩ := S.tr i s d (.inl e)
  have hi : i < env.length := (List.getElem?_eq_some_iff.mp e).1
  obtain ⟨F', hF'⟩ : ∃ F' : Hp, F' = fun a => if a ∈ L.map (·.1) then none else F a := ⟨_, rfl⟩
  have fin : ∀ a, a ∈ L.map (·.1) → F' a = none ∧ F a = some (.own i) ∧ H a ≠ none := fun a ha => by
    obtain ⟨q, hq, rfl⟩ := List.mem_map.mp ha
    exact ⟨by rw [hF']; exact if_pos ha, (h4 q hq).2, by rw [(h4 q hq).1]; exact fun z => nomatch z⟩
  have fout : ∀ a, a ∉ L.map (·.1) → F' a = F a := fun a ha => by rw [hF']; exact if_neg ha
  have nL : ∀ a, F a ≠ some (.own i) → F' a = F a := fun a h => fout a fun z => h (fin a z).2.1
  have sb : Sub F F' := fun a o e m => by
    rw [nL a (fun z => by rw [e] at z; cases z; cases m)]; exact e
  have some' : ∀ {a o}, F' a = some o → F a = some o := fun {a o} h => by
    by_cases ha : a ∈ L.map (·.1)
    · rw [(fin a ha).1] at h; cases h
    · rw [fout a ha] at h; exact h
  have ow' : ∀ {j : Nat} {x : D}, IsOw (env.set i .un) j x → j ≠ i ∧ IsOw env j x := fun {j x} q => set_ow (x := Sv.un) hi ⟨(by intro _ z; cases z), (by intro _ z; cases z)⟩ q
  refine ⟨v, L, F', h1, sb, ⟨fun a u h => S.fh a u (some' h), by simpa using S.len, fun j x q => ?_, fun j x q => ?_, fun j k x y p a b => S.ap j k x y p (ow' a).2 (ow' b).2, fun q hq => ?_, S.f0.trans sb, fun q a b => ?_, S.kp, fun q hq => ?_, fun q hq => ?_, fun a ob u h g => S.lk a ob u (some' h) g, fun j s1 y q => ?_, fun a m h => S.mr a m (some' h), fun a g => ?_, fun a ks h => sb a _ (S.kt a ks h) rfl, S.tb⟩, h2.mono sb, h3, fun q hq => ?_⟩
  · rcases set_other hi q with ⟨_, z⟩ | ⟨_, b⟩
    · cases z
    · obtain ⟨w, a, b⟩ := S.fz j x b
      exact ⟨w, a, b.mono sb⟩
  · obtain ⟨p, a, b, c, d'⟩ := S.own j x (ow' q).2
    exact ⟨p, a, by rw [nL p (by rw [b]; exact fun z => nomatch z)]; exact b, c.mono sb fun _ z => z, d'⟩
  · obtain ⟨⟨x, hx⟩, g⟩ := S.pm q hq
    have : q.1 ≠ i := by
      rintro z
      unfold IsPw at hx
      rw [z, e] at hx
      rcases hx with hx | ⟨_, _, _, hx⟩ <;> cases hx
    exact ⟨⟨x, by unfold IsPw; rw [List.getElem?_set_ne (Ne.symm this)]; exact hx⟩, g⟩
  · refine S.nw q a fun z => b ?_
    rw [nL q (by rw [z]; exact fun z => nomatch z)]; exact z
  · obtain ⟨g1, g2⟩ := S.lc q hq
    refine ⟨g1, ?_⟩
    rw [fout _ (fun z => ?_)]
    · exact g2
    · obtain ⟨r, hr, w⟩ := List.mem_map.mp z
      have := (h4 r hr).1
      rw [w, g1] at this
      exact h2.nz r hr _ _ (Option.some.inj this).symm
  · obtain ⟨g1, g2, g3, g4⟩ := S.hx q hq
    exact ⟨g1, by rw [nL _ (by rw [g2]; exact fun z => nomatch z)]; exact g2, g3, fun j x h => g4 j x (ow' h).2⟩
  · obtain ⟨hj, q⟩ := set_tr hi (fun _ _ => ⟨(by intro z; cases z), (by intro z; cases z)⟩) q
    obtain ⟨w, L1, a, b, c, d'⟩ := S.tr j s1 y q
    refine ⟨w, L1, a, b.mono sb, c, fun r hr => ⟨(d' r hr).1, ?_⟩⟩
    rw [nL _ (by rw [(d' r hr).2]; intro z; cases z; exact hj rfl)]
    exact (d' r hr).2
  · obtain ⟨g0, g1, g2, g3⟩ := S.gv a g
    refine ⟨g0, g1, g2, ?_⟩
    by_cases ha : a ∈ L.map (·.1)
    · exact .inl (fin a ha).1
    · rw [fout a ha]; exact g3
  · have ha := List.mem_map_of_mem (f := (·.1)) hq
    obtain ⟨f1, f2, f3⟩ := fin _ ha
    refine ⟨(h4 q hq).1, f1, ?_, fun j y o z => ?_, fun x hx z => ?_⟩
    · rcases S.mr q.1 i f2 with z | z
      · exact z
      · exact absurd z (S.trG e f2)
    · obtain ⟨p, a, b, _⟩ := S.own j y (ow' o).2
      rw [z] at a; cases a
      rw [f2] at b; cases b
    · have := (S.hx x hx).2.1
      rw [z, f2] at this; cases this
end
theorem dm_tr {X : Cx} {Tb : TbT} {x : Str} {pos : Pos} (i : Nat) (hN : X.N[i]? = some x := by rfl) (hv : Vis X.env.scope x := by first | exact Or.inl rfl | exact Or.inr (Or.inl rfl) | exact Or.inr (Or.inr rfl)) (hd : (x == ("__debug__" : Str)) = false := by decide)
    (hcd : (x == ("__classdict__" : Str)) = false := by decide) : PE X (.Name x pos) (tM (X.kg Tb) (mTr i)) := PEi (pe_var hN hv hd hcd) fun σ H Q ⟨B, F, env, s', d, env', S, ef, k⟩ => by
  unfold mTr at ef
  split at ef
  · rename_i s d' q
    cases ef
    obtain ⟨v, L, F', h1, sb, S', t, nd, lo⟩ := S.dropT q
    exact ⟨v, h1, k v L F' H S' sb t nd lo⟩
  · cases ef
end DL
namespace DL
open PySem PySem.Spec PyProof.Rows L2
def isW : Sv → Bool
  | .fz d => !clean d && refD d
  | _ => false
/-- what is watched -/
structure Wat (K : Fg) (F H : Hp) (σ : L2.St) (env : En) (W : List (Nat × Addr)) : Prop where
  inW : ∀ j d, env[j]? = some (.fz d) → isW (.fz d) = true → ∃ a, (j, a) ∈ W
  at_ : ∀ q ∈ W, ∃ d, env[q.1]? = some (.fz d) ∧ isW (.fz d) = true ∧ σ[q.1]? = some (some (.ref q.2))
section
variable {K : Fg} {B : Bs} {F H F' H' : Hp} {σ σ' : L2.St} {env e e2 : En} {W : List (Nat × Addr)}
theorem Wat.fr (T : Wat K F H σ env W) (S : Sl K B F H σ env) {q : Nat × Addr} (hq : q ∈ W) : ∃ o, F q.2 = some o ∧ H q.2 = some o ∧ Mk o = false ∧ ¬ IsDct o := by
  obtain ⟨d, h1, h2, h3⟩ := T.at_ q hq
  obtain ⟨v, h4, h5⟩ := S.fz q.1 d h1
  rw [h3] at h4; cases h4
  obtain ⟨p, o, e, h6, h7, h8⟩ := h5.refAt (Bool.and_eq_true_iff.mp h2).2
  cases e
  refine ⟨o, h6, ?_, h7, h8⟩
  rcases S.fh _ o h6 with z | ⟨z, _⟩ | ⟨z, _⟩
  · exact z
  · exact absurd z h8
  · rw [h7] at z; cases z
end
end DL
namespace DL
open PySem PySem.Spec PyProof.Rows L2
def UnZ (Z : Hp) (H : Hp) (Q : Hp → Prop) : Prop := Q H ∨ ∃ d od u, H d = some (.frz od u) ∧ (∀ o' u', Z d ≠ some (.frz o' u')) ∧ Q (upd H d u)
theorem UnZ.imp {Z H : Hp} {P Q : Hp → Prop} (h : UnZ Z H P) (k : ∀ H', P H' → Q H') : UnZ Z H Q := by
  rcases h with h | ⟨d, od, u, e, n, h⟩
  · exact .inl (k _ h)
  · exact .inr ⟨d, od, u, e, n, k _ h⟩
end DL
namespace DL
open PySem PySem.Spec PyProof.Rows L2
end DL
namespace DL
open PySem PySem.Spec PyProof.Rows L2
end DL
namespace DL
open PySem PySem.Spec PyProof.Rows L2
end DL
namespace DL
open PySem PySem.Spec PyProof.Rows L2
end DL
namespace DL
open PySem PySem.Spec PyProof.Rows L2
def pairD (c : Int) : D := .tuple [.int (c / 64), .int (c % 64)]
/-- one pair that stands -/
structure PrAt (K : Fg) (F : Hp) (p : Addr × List Int) : Prop where
  at_ : F p.1 = some (.tup (p.2.map V.int))
  two : ∃ x y, p.2 = [x, y] ∧ (0 ≤ x ∧ x < 64) ∧ 0 ≤ y ∧ y < 64
theorem PrAt.code {K : Fg} {F : Hp} {p : Addr × List Int} (h : PrAt K F p) : p.2 = [TS.code 64 p.2 / 64, TS.code 64 p.2 % 64] := by
  obtain ⟨x, y, e, h1, h2⟩ := h.two
  rw [e, code_pair]
  have a : (x * 64 + y) / 64 = x := by omega
  have b : (x * 64 + y) % 64 = y := by omega
  rw [a, b]
theorem PrAt.dt {K : Fg} {F : Hp} {p : Addr × List Int} (h : PrAt K F p) : Dt K F (.ref p.1) (pairD (TS.code 64 p.2)) := by
  have e := h.code
  have a := h.at_
  rw [e] at a
  exact .tup a (.cons (.int _) (.cons (.int _) .nil))
end DL
namespace DL
open PySem PySem.Spec PyProof.Rows L2
end DL
namespace DL
open PySem PySem.Spec PyProof.Rows L2
end DL
namespace DL
open PySem PySem.Spec PyProof.Rows L2
def strsOf : List D → Option (List Str)
  | [] => some []
  | .str x :: r => (strsOf r).bind fun xs => some (x :: xs)
  | _ => none
theorem strsOf_dt {K : Fg} {F : Hp} : ∀ {vs : List V} {ds : List D} {ys : List Str}, DtA K F vs ds → strsOf ds = some ys → vs = ys.map V.str
  | _, _, _, .nil, e => by cases e; rfl
  | v :: vs, d :: ds, ys, .cons h t, e => by
    unfold strsOf at e
    split at e
    · cases ‹_ :: _ = []›
    · rename_i x r q
      injection q with q1 q2
      subst q1; subst q2
      obtain ⟨xs, q3, e⟩ := bd e
      cases e
      rw [h.str_inv, strsOf_dt t q3]; rfl
    · cases e
theorem strs_dt {K : Fg} {F : Hp} : ∀ ys : List Str, DtA K F (ys.map V.str) (ys.map .str)
  | [] => .nil
  | y :: ys => .cons (.str y) (strs_dt ys)
def opM (g : Str → List D → Option D) (f : Df) (os : List Opd) : Df := fun env => (f env).bind fun r => match r.1 with
  | .str a => (evs os r.2).bind fun z => (looks z.1 z.2).bind fun ds => (g a ds).bind fun y => some (y, z.2)
  | _ => none
def OkSM (K : Fg) (r : V → List V → Hp → VK → Prop) (g : Str → List D → Option D) : Prop := ∀ {B : Bs} {F H : Hp} {σ : L2.St} {env : En} {a : Str} {xs : List V} {ds : List D} {d : D} {Q : VK}, Sl K B F H σ env → BvA K F H xs ds → g a ds = some d → KD K B F σ env d Q → r (.str a) xs H Q
def OkSMN (K : Fg) (r : V → List V → Hp → VK → Prop) (g : Str → List D → Option D) : Prop := ∀ {B : Bs} {F H : Hp} {σ : L2.St} {env : En} {a : Str} {xs : List V} {ds : List D} {d : D} {Q : VK}, Sl K B F H σ env → BvA K F H xs ds → g a ds = some d → KN K B F σ env d Q → r (.str a) xs H Q
section
variable {X : Cx} {Tb : TbT} {o e : Expr} {es : List Expr} {name : Str} {apos cpos : Pos} {id : String} {r : V → List V → Hp → VK → Prop} {g : Str → List D → Option D} {f : Df} {os : List Opd}
theorem de_strM (slot : Slot "str" name id) (hty : typeOf (.builtin id) = pure (.type "method_descriptor")) (hm : MtR X id r) (ok : OkSM (X.kg Tb) r g) (ho : PE X o (tD (X.kg Tb) f)) (ha : PA X (e :: es) (tAr (X.kg Tb) os))
    (hbase : attributeBase o name X.env (eval o X.env) = eval o X.env := by rfl)
    (hfew : ((backTo cpos (starEach (e :: es) X.env)).all (fun x => !x.1) && (backToKw cpos (keywordEach [] X.env)).all (fun x => x.1.isSome)
      && decide ((e :: es).length + ([] : List Keyword).length + (if ([] : List Keyword).isEmpty then 0 else 1) < 30)) = true := by rfl)
    (hline : (apos.endLine == cpos.line) = true := by rfl) (hs : starEach (e :: es) X.env = (false, eval e X.env) :: starEach es X.env := by rfl) (hplain : (backTo cpos (starEach es X.env)).any (·.1) = false := by rfl) :
    PE X (.Call (.Attribute o name apos) (e :: es) [] cpos) (tD (X.kg Tb) (opM g f os)) :=
  PEi (pe_bm PySem.F.plainAttrs_str slot hty hm ho ha hbase hfew hline hs hplain) fun σ H Q ⟨B, F, env, d, env', S, ef, k⟩ => by
    obtain ⟨⟨d0, e1⟩, q1, ef⟩ := bd ef
    dsimp only at ef
    split at ef
    · rename_i a
      obtain ⟨⟨us, e2⟩, q2, ef⟩ := bd ef
      obtain ⟨ds, q3, ef⟩ := bd ef
      obtain ⟨y, q4, ef⟩ := bd ef
      cases ef
      refine ⟨B, F, env, _, e1, S, q1, fun v F1 H1 S1 s1 hd => ?_⟩
      rw [hd.str_inv]
      refine ⟨rfl, B, F1, e1, us, _, S1, q2, fun vs F2 H2 S2 s2 hv => ?_⟩
      exact ok S2 (hv.bv S2 q3) q4 fun v F' H' S' s' hd' => k v F' H' S' ((s1.trans s2).trans s') hd'
    · cases ef
theorem de_strMN (slot : Slot "str" name id) (hty : typeOf (.builtin id) = pure (.type "method_descriptor")) (hm : MtR X id r) (ok : OkSMN (X.kg Tb) r g) (ho : PE X o (tD (X.kg Tb) f)) (ha : PA X (e :: es) (tAr (X.kg Tb) os))
    (hbase : attributeBase o name X.env (eval o X.env) = eval o X.env := by rfl)
    (hfew : ((backTo cpos (starEach (e :: es) X.env)).all (fun x => !x.1) && (backToKw cpos (keywordEach [] X.env)).all (fun x => x.1.isSome)
      && decide ((e :: es).length + ([] : List Keyword).length + (if ([] : List Keyword).isEmpty then 0 else 1) < 30)) = true := by rfl)
    (hline : (apos.endLine == cpos.line) = true := by rfl) (hs : starEach (e :: es) X.env = (false, eval e X.env) :: starEach es X.env := by rfl) (hplain : (backTo cpos (starEach es X.env)).any (·.1) = false := by rfl) :
    PE X (.Call (.Attribute o name apos) (e :: es) [] cpos) (tN (X.kg Tb) (opM g f os)) :=
  PEi (pe_bm PySem.F.plainAttrs_str slot hty hm ho ha hbase hfew hline hs hplain) fun σ H Q ⟨B, F, env, d, env', S, ef, k⟩ => by
    obtain ⟨⟨d0, e1⟩, q1, ef⟩ := bd ef
    dsimp only at ef
    split at ef
    · rename_i a
      obtain ⟨⟨us, e2⟩, q2, ef⟩ := bd ef
      obtain ⟨ds, q3, ef⟩ := bd ef
      obtain ⟨y, q4, ef⟩ := bd ef
      cases ef
      refine ⟨B, F, env, _, e1, S, q1, fun v F1 H1 S1 s1 hd => ?_⟩
      rw [hd.str_inv]
      refine ⟨rfl, B, F1, e1, us, _, S1, q2, fun vs F2 H2 S2 s2 hv => ?_⟩
      exact ok S2 (hv.bv S2 q3) q4 fun p F' H' S' s' a1 a2 a3 a4 a5 => k p F' H' S' ((s1.trans s2).trans s') a1 a2 a3 a4 a5
    · cases ef
end
def gJoin (a : Str) : List D → Option D
  | [.list ds] => (strsOf ds).bind fun ys => if (ys.map (·.length)).sum + ys.length * a.length ≤ 16777216 then some (.str (Txt.join a ys)) else none
  | [.tuple ds] => (strsOf ds).bind fun ys => if (ys.map (·.length)).sum + ys.length * a.length ≤ 16777216 then some (.str (Txt.join a ys)) else none
  | _ => none
theorem ok_join {K : Fg} : OkSM K (fun x xs H Q => ∃ a p, ∃ ys : List Str, x = .str a ∧ xs = [.ref p] ∧ (SqL K.fr H p (ys.map V.str) ∨ SqT K.fr H p (ys.map V.str)) ∧ (ys.map (·.length)).sum + ys.length * a.length ≤ 16777216 ∧ Q (.str (Txt.join a ys)) H) gJoin := fun {B F H σ env a xs ds d Q} S h e k => by
  unfold gJoin at e
  split at e
  · obtain ⟨ys, q, e⟩ := bd e
    split at e
    · rename_i hh
      cases e
      obtain ⟨v, rfl, h0⟩ := h.one
      obtain ⟨p, vs, rfl, hp, t⟩ := h0.lst S.fh
      rw [strsOf_dt t q] at hp
      exact ⟨a, p, ys, rfl, rfl, .inl (SqL.of hp), hh, k _ F H S (Sub.refl _) (.str _)⟩
    · cases e
  · obtain ⟨ys, q, e⟩ := bd e
    split at e
    · rename_i hh
      cases e
      obtain ⟨v, rfl, h0⟩ := h.one
      obtain ⟨p, vs, rfl, _, hp, t⟩ := h0.tup S.fh
      rw [strsOf_dt t q] at hp
      exact ⟨a, p, ys, rfl, rfl, .inr (SqT.of hp), hh, k _ F H S (Sub.refl _) (.str _)⟩
    · cases e
  · cases e
def gSplit (a : Str) : List D → Option D
  | [.str b] => if (b.length == 0) = false ∧ a.length + 2 ≤ 16777216 then some (.list ((Txt.split a b).map .str)) else none
  | _ => none
theorem ok_split {K : Fg} : OkSMN K (fun x xs H Q => ∃ a b, x = .str a ∧ xs = [.str b] ∧ (b.length == 0) = false ∧ a.length + 2 ≤ sizeLine ∧ rNewStrs (Txt.split a b) H Q) gSplit := fun {B F H σ env a xs ds d Q} S h e k => by
  unfold gSplit at e
  split at e
  · rename_i b
    split at e
    · rename_i hh
      cases e
      obtain ⟨v, rfl, h0⟩ := h.one
      rw [h0.str_inv]
      exact ⟨a, b, rfl, rfl, hh.1, by rw [sizeLine_eq]; exact hh.2, fun p hp => KN.at_new k S hp ⟨_, upd_same, strs_dt _⟩⟩
    · cases e
  · cases e
def gStarts (a : Str) : List D → Option D
  | [.str b] => some (.bool (Txt.startswith a b))
  | _ => none
theorem ok_starts {K : Fg} : OkSM K (fun x xs H Q => ∃ a b, x = .str a ∧ xs = [.str b] ∧ Q (.bl (Txt.startswith a b)) H) gStarts := fun {B F H σ env a xs ds d Q} S h e k => by
  unfold gStarts at e
  split at e
  · rename_i b
    cases e
    obtain ⟨v, rfl, h0⟩ := h.one
    rw [h0.str_inv]
    exact ⟨a, b, rfl, rfl, k _ F H S (Sub.refl _) (.bl _)⟩
  · cases e
def gStrI : List D → Option D
  | [.int i] => if i.natAbs.log2 < 1920 then some (.str (toString i)) else none
  | _ => none
theorem ok_strI {K : Fg} : OkA K (fun xs H Q => ∃ i, xs = [.int i] ∧ i.natAbs.log2 < 1920 ∧ Q (.str (toString i)) H) gStrI := fun {B F H σ env xs ds d Q} S h e k => by
  unfold gStrI at e
  split at e
  · rename_i i
    split at e
    · rename_i hh
      cases e
      obtain ⟨v, rfl, h0⟩ := h.one
      rw [h0.int_inv]
      exact ⟨i, rfl, hh, k _ F H S (Sub.refl _) (.str _)⟩
    · cases e
  · cases e
def gIntS : List D → Option D
  | [.str a] => (PySem.intText? a).bind fun n => if a.length ≤ 640 then some (.int n) else none
  | _ => none
theorem ok_intS {K : Fg} : OkA K (fun xs H Q => ∃ a n, xs = [.str a] ∧ PySem.intText? a = some n ∧ a.length ≤ 640 ∧ Q (.int n) H) gIntS := fun {B F H σ env xs ds d Q} S h e k => by
  unfold gIntS at e
  split at e
  · rename_i a
    obtain ⟨n, q, e⟩ := bd e
    split at e
    · rename_i hh
      cases e
      obtain ⟨v, rfl, h0⟩ := h.one
      rw [h0.str_inv]
      exact ⟨a, n, rfl, q, hh, k _ F H S (Sub.refl _) (.int _)⟩
    · cases e
  · cases e
def eFmt (f : Df) : Df := fun env => (f env).bind fun r => match r.1 with
  | .str y => if y.length ≤ 16777216 then some (.str y, r.2) else none
  | .int i => if i.natAbs.log2 < 1920 then some (.str (toString i), r.2) else none
  | _ => none
def jsGo : List Df → Str → En → Option (Str × En)
  | [], acc, e => some (acc, e)
  | f :: fs, acc, e => (f e).bind fun r => match r.1 with
    | .str y => if (acc ++ y).length ≤ 16777216 then jsGo fs (acc ++ y) r.2 else none
    | _ => none
def eJs (fs : List Df) : Df := fun env => (jsGo fs Str.empty env).bind fun r => some (.str r.1, r.2)
theorem js_le {K : Fg} {B : Bs} {σ : L2.St} : ∀ {fs : List Df} {acc out : Str} {F H : Hp} {env env' : En} {Q : Str → Hp → Prop}, Sl K B F H σ env → jsGo fs acc env = some (out, env') → (∀ F' H', Sl K B F' H' σ env' → Sub F F' → Q out H') → tJs (fs.map (tD K)) acc σ H Q
  | [], acc, out, F, H, env, env', Q, S, e, k => by
    cases e
    exact k F H S (Sub.refl F)
  | f :: fs, acc, out, F, H, env, env', Q, S, e, k => by
    obtain ⟨⟨d, e1⟩, q1, e⟩ := bd (show (f env).bind (fun r => match r.1 with
      | .str y => if (acc ++ y).length ≤ 16777216 then jsGo fs (acc ++ y) r.2 else none
      | _ => none) = some (out, env') from e)
    dsimp only at e
    split at e
    · rename_i y
      split at e
      · rename_i hz
        refine ⟨B, F, env, _, e1, S, q1, fun v F1 H1 S1 s1 hd => ⟨y, hd.str_inv, by rw [sizeLine_eq]; exact hz, ?_⟩⟩
        exact js_le S1 e fun F' H' S' s' => k F' H' S' (s1.trans s')
      · cases e
    · cases e
section
variable {X : Cx} {Tb : TbT} {e v1 v2 : Expr} {rest : List Expr} {f : Df} {fs : List Df} {pos : Pos}
theorem de_fmt (he : PE X e (tD (X.kg Tb) f)) : PE X (.FormattedValue e (-1) none pos) (tD (X.kg Tb) (eFmt f)) := PEi (pe_fmt he) fun σ H Q ⟨B, F, env, d, env', S, ef, k⟩ => by
  obtain ⟨⟨d0, e1⟩, q1, ef⟩ := bd ef
  dsimp only at ef
  split at ef
  · rename_i y
    split at ef
    · rename_i hz
      cases ef
      exact ⟨B, F, env, _, _, S, q1, fun v F1 H1 S1 s1 hd => .inl ⟨y, hd.str_inv, by rw [sizeLine_eq]; exact hz, k _ F1 H1 S1 s1 (.str _)⟩⟩
    · cases ef
  · rename_i i
    split at ef
    · rename_i hz
      cases ef
      exact ⟨B, F, env, _, _, S, q1, fun v F1 H1 S1 s1 hd => .inr ⟨i, hd.int_inv, hz, k _ F1 H1 S1 s1 (.str _)⟩⟩
    · cases ef
  · cases ef
theorem de_js (h : PJ X (v1 :: v2 :: rest) (fs.map (tD (X.kg Tb)))) : PE X (.JoinedStr (v1 :: v2 :: rest) pos) (tD (X.kg Tb) (eJs fs)) := PEi (pe_joined h) fun σ H Q ⟨B, F, env, d, env', S, ef, k⟩ => by
  obtain ⟨⟨out, e1⟩, q1, ef⟩ := bd ef
  cases ef
  exact js_le S q1 fun F' H' S' s' => k _ F' H' S' s' (.str _)
end
theorem de_globStr {X : Cx} {Tb : TbT} {pos : Pos} {x z : Str} {t : Tok} (hg : Gl X x) (hm : X.mg x = some (.str z t)) (hd : (x == ("__debug__" : Str)) = false := by decide) : PE X (.Name x pos) (tD (X.kg Tb) (eC (.str z))) := de_c (v := .str z) (pe_glob hg hm ⟨t, rfl⟩ hd) fun _ => .str z
end DL
namespace DL
open PySem PySem.Spec PyProof.Rows L2
def lkS : List (Str × Str) → Str → Option Str
  | [], _ => none
  | (k, v) :: r, z => if k = z then some v else lkS r z
/-- the module's dict named x, its keys and what they lead to -/
structure GDct (K : Fr) (w : World) (mg : Str → Option Value) (x : Str) (kv : List (Str × Str)) : Prop where
  ex : ∃ d es n, mg x = some (.ref d) ∧ KDict K w d es n ∧ ∀ z, ∃ r, PySem.W.nsIn K d z = some r ∧ (match lkS kv z with
    | none => r = none
    | some v => ∃ t, r = some (.str v t))
def gInG (kv : List (Str × Str)) (neg : Bool) : D → Option D
  | .str z => some (.bool (xor neg (lkS kv z).isSome))
  | _ => none
def gIxG (kv : List (Str × Str)) : D → Option D
  | .str z => (lkS kv z).map .str
  | _ => none
theorem gd_some {r : Option Value} {o : Option Str} (h : match o with
    | none => r = none
    | some v => ∃ t, r = some (.str v t)) : r.isSome = o.isSome := by
  cases o with
  | none => have h : r = none := h; rw [h]; rfl
  | some v => obtain ⟨t, h⟩ := (show ∃ t, r = some (.str v t) from h); rw [h]; rfl
section
variable {X : Cx} {Tb : TbT} {x : Str} {kv : List (Str × Str)} {a : Expr} {oa : Opd} {p pos : Pos}
theorem inG_le {K : Fg} {r : R2} {neg : Bool} {v : V} (hr : ∀ z H Q, (∀ H', H' = H → Q (.bl (xor neg (lkS kv z).isSome)) H') → r (.str z) v H Q) : ∀ σ H Q, tD K (op1 (gInG kv neg) oa) σ H Q → tOp r (tO K oa) (tC v) σ H Q := fun σ H Q ⟨B, F, env, d, env', S, ef, k⟩ => by
  obtain ⟨⟨u, e1⟩, q1, ef⟩ := bd ef
  obtain ⟨y, q2, ef⟩ := bd ef
  obtain ⟨d', q3, ef⟩ := bd ef
  cases ef
  unfold gInG at q3
  split at q3
  · rename_i z
    cases q3
    refine ⟨B, F, env, u, _, S, q1, fun w F1 H1 S1 s1 h1 => ?_⟩
    rw [(h1.bv S1 q2).str_inv]
    exact hr z H1 Q fun H' e => by rw [e]; exact k _ F1 H1 S1 s1 (.bl _)
  · cases q3
theorem dt_notInG (G : GDct X.K X.w X.mg x kv) (hg : Gl X x) (ha : PE X a (tO (X.kg Tb) oa)) (hd : (x == ("__debug__" : Str)) = false := by decide) (hm2 : behindInMarks .NotIn (.Name x p) = false := by rfl) :
    PT X (.Compare a [.NotIn] [.Name x p] pos) (tT (X.kg Tb) (bD (op1 (gInG kv true) oa))) := by
  obtain ⟨d, es, n, hm, D, hz⟩ := G.ex
  refine PTi (pt_cmpR (op_notIn_kd D) ha (pe_glob (v := .ref d) hg hm rfl hd) hm2) fun σ H Q ⟨B, F, env, b, env', S, ef, k⟩ => inG_le (fun z H Q q => ?_) σ H _ ⟨B, F, env, .bool b, env', S, bD_inv ef, fun v F' H' S' s h => ⟨b, h.bool_inv, k F' H' S' s⟩⟩
  obtain ⟨r, h1, h2⟩ := hz z
  refine ⟨z, r, rfl, rfl, h1, ?_⟩
  rw [gd_some h2]
  have := q H rfl
  simpa using this
theorem de_ixG {b : Expr} {ob : Opd} (G : GDct X.K X.w X.mg x kv) (hg : Gl X x) (hb : PE X b (tO (X.kg Tb) ob)) (hs : PlainIx b) (hd : (x == ("__debug__" : Str)) = false := by decide) : PE X (.Subscript (.Name x p) b pos) (tD (X.kg Tb) (op1 (gIxG kv) ob)) := by
  obtain ⟨d, es, n, hm, D, hz⟩ := G.ex
  refine PEi (pe_ix ix_kdict (pe_glob (v := .ref d) hg hm rfl hd) hb hs) fun σ H Q ⟨B, F, env, d', env', S, ef, k⟩ => ?_
  obtain ⟨⟨u, e1⟩, q1, ef⟩ := bd ef
  obtain ⟨y, q2, ef⟩ := bd ef
  obtain ⟨d2, q3, ef⟩ := bd ef
  cases ef
  unfold gIxG at q3
  split at q3
  · rename_i z
    obtain ⟨v, hv, rfl⟩ := Option.map_eq_some_iff.mp q3
    refine ⟨B, F, env, u, _, S, q1, fun w F1 H1 S1 s1 h1 => ?_⟩
    rw [(h1.bv S1 q2).str_inv]
    obtain ⟨r, h2, h3⟩ := hz z
    rw [hv] at h3
    obtain ⟨t, rfl⟩ := h3
    exact ⟨d, z, .str v, rfl, rfl, ⟨es, n, _, D.at_, D.lit, h2, ⟨t, rfl⟩⟩, k _ F1 H1 S1 s1 (.str _)⟩
  · cases q3
end
def kvOf (e : DictEntry) : Option (Str × Str) := match e.key, e.val with
  | .str k _, .str v _ => some (k, v)
  | _, _ => none
def gdB (K : Fr) (d : Addr) (kv : List (Str × Str)) : Bool := match K.lookup d with
  | some ⟨_, _, .dict es _, _⟩ => decide (es.toList.map kvOf = kv.map some)
  | _ => false
theorem kvOf_inv {e : DictEntry} {k v : Str} (h : kvOf e = some (k, v)) : ∃ t u, e.key = .str k t ∧ e.val = .str v u := by
  unfold kvOf at h
  split at h
  · rename_i k' t v' u q1 q2
    cases h
    exact ⟨t, u, q1, q2⟩
  · cases h
theorem gd_any : ∀ {l : List DictEntry} {kv : List (Str × Str)}, l.map kvOf = kv.map some → l.any (·.refKey) = false
  | [], _, _ => rfl
  | e :: l, [], h => by cases h
  | e :: l, (k, v) :: kv, h => by
    have h : kvOf e :: l.map kvOf = some (k, v) :: kv.map some := h
    injection h with h1 h2
    obtain ⟨t, u, e1, _⟩ := kvOf_inv h1
    rw [List.any_cons, gd_any h2]
    have : e.refKey = false := by
      unfold DictEntry.refKey
      rw [e1]
    rw [this]; rfl
theorem gd_find {z : Str} : ∀ {l : List DictEntry} {kv : List (Str × Str)}, l.map kvOf = kv.map some → (l.find? (·.key.isStr z) = none ∧ lkS kv z = none) ∨ ∃ e v t, l.find? (·.key.isStr z) = some e ∧ e.val = .str v t ∧ lkS kv z = some v
  | [], [], _ => .inl ⟨rfl, rfl⟩
  | [], _ :: _, h => by cases h
  | e :: l, [], h => by cases h
  | e :: l, (k, v) :: kv, h => by
    have h : kvOf e :: l.map kvOf = some (k, v) :: kv.map some := h
    injection h with h1 h2
    obtain ⟨t, u, e1, e2⟩ := kvOf_inv h1
    have is : e.key.isStr z = (k == z) := by rw [e1]; rfl
    by_cases q : k = z
    · refine .inr ⟨e, v, u, ?_, e2, ?_⟩
      · rw [List.find?_cons, is, beq_iff_eq.mpr q]
      · unfold lkS; rw [if_pos q]
    · have ne : (k == z) = false := beq_eq_false_iff_ne.mpr q
      rw [List.find?_cons, is, ne]
      unfold lkS
      rw [if_neg q]
      exact gd_find h2
theorem gdB_ok {K : Fr} {w : World} {mg : Str → Option Value} {x : Str} {kv : List (Str × Str)} {d : Addr} (h : gdB K d kv = true) (hm : mg x = some (.ref d)) (D : ∃ es n, KDict K w d es n) : GDct K w mg x kv := by
  obtain ⟨es, n, D⟩ := D
  refine ⟨d, es, n, hm, D, fun z => ?_⟩
  unfold gdB at h
  rw [D.at_] at h
  have h := of_decide_eq_true h
  unfold PySem.W.nsIn
  rw [D.at_]
  dsimp only
  rcases gd_find (z := z) h with ⟨a, b⟩ | ⟨e, v, t, a, b, c⟩
  · rw [a, b, gd_any h]
    exact ⟨none, rfl, rfl⟩
  · rw [a, c]
    exact ⟨_, rfl, t, by rw [b]⟩
end DL
namespace DL
open PySem PySem.Spec PyProof.Rows L2
def obsW (n : Nat) (fa : List He.Fa) (fn : List He.DefD) (ts : List He.Tab) (tf : List He.Defn) (ex : Fr → Bool) (g : Addr → Option Obj) : He.AlX := (He.obsT fa fn ts (frZ g n), ex (frZ g n) && He.tabsB g tf (frZ g n))
theorem saysW {n : Nat} {fa : List He.Fa} {fn : List He.DefD} {ts : List He.Tab} {tf : List He.Defn} {ex : Fr → Bool} {w : World} {h : Heap} (e : obsW n fa fn ts tf ex h.get? = He.valX fn ts w) : He.SaysX fa fn ts tf ex w h (frZ h.get? n) := by
  have e1 : He.obsT fa fn ts (frZ h.get? n) = He.valT fn ts w := congrArg Prod.fst e
  have e2 : (ex (frZ h.get? n) && He.tabsB h.get? tf (frZ h.get? n)) = true := congrArg Prod.snd e
  obtain ⟨h1, h2⟩ := He.ba e2
  have row : ∀ p ∈ tf, PySem.W.codeHdIn (frZ h.get? n) (He.cT (frZ h.get? n) p).1 (He.cT (frZ h.get? n) p).2 = true ∧ ∃ o, h.get? (He.cT (frZ h.get? n) p).2 = some o ∧ He.emptyTab o = true := fun p hp => by
    obtain ⟨g1, g2⟩ := He.ba (List.all_eq_true.mp h2 p hp)
    refine ⟨g1, ?_⟩
    split at g2
    · rename_i o q
      exact ⟨o, q, g2⟩
    · cases g2
  refine ⟨e1, h1, fun p hp => (row p hp).1, fun p hp => ?_, fun p hp => ?_⟩
  · obtain ⟨_, o, q, z⟩ := row p hp
    exact He.frT_none q z
  · obtain ⟨_, o, q, z⟩ := row p hp
    rw [q, He.emptyTab_eq z]
def hookW (n : Nat) (fa : List He.Fa) (fn : List He.DefD) (ts : List He.Tab) (tf : List He.Defn) (ex : Fr → Bool) : PySem.W.Hook where
  α := He.AlX
  obs := fun s => obsW n fa fn ts tf ex s.heap.get?
  val := fun w => He.valX fn ts w
  says := fun w h => ∃ K : Fr, K.In h ∧ He.SaysX fa fn ts tf ex w h K
  of := fun _ _ e => ⟨_, He.frT_in, saysW e⟩
  keeps := fun _ _ _ ⟨K, hK, c⟩ k => ⟨K, PySem.W.Frag.In.keeps hK k, ⟨c.t, c.more, c.hd, c.out, fun p hp => k _ _ (c.empty p hp)⟩⟩
theorem obsW_eq {n : Nat} {fa : List He.Fa} {fn : List He.DefD} {ts : List He.Tab} {tf : List He.Defn} {ex : Fr → Bool} {g : Addr → Option Obj} {s : Shared} (h : ∀ a, g a = s.heap.get? a) : obsW n fa fn ts tf ex g = (hookW n fa fn ts tf ex).obs s := by
  obtain rfl : g = s.heap.get? := funext h
  rfl
end DL
namespace DL
open PySem PySem.Spec PyProof.Rows L2
/-- the list at a as it stands at each turn, each item in a new pair with a number c higher -/
def ItC (K : Fr) (a : Addr) (c : Nat) : It :=
  ⟨fun i H => ∃ (xs : List V) (x : V), SqL K H a xs ∧ xs[i]? = some x, fun i H v H' => ∃ T x, v = .ref T ∧ H T = none ∧ H' = upd H T (.tup [.int ((c + i : Nat) : Int), x]) ∧ ∀ xs, SqL K H a xs → xs[i]? = some x, fun i H => ∃ xs : List V, SqL K H a xs ∧ xs.length = i⟩
theorem walks_enumC {K : Fg} {F : Hp} {a : Addr} {c : Nat} {vs : List V} {ds : List D} (ha : F a = some (.lst vs)) (ta : DtA K F vs ds) : Walks K (ItC K.fr a c) F (numbered c ds) := fun {B F' H σ env} S s i => by
  have q1 : SqL K.fr H a vs := SqL.of (S.fh.lst (s _ _ ha rfl))
  refine ⟨fun d e => ?_, fun hl => ⟨vs, q1, by rw [ta.length]; rw [numbered_len] at hl; exact hl⟩⟩
  obtain ⟨x, e1, rfl⟩ := numbered_get e
  obtain ⟨v, h1, h2⟩ := ta.get e1
  refine ⟨⟨vs, v, q1, h1⟩, fun z H' y => ?_⟩
  obtain ⟨T, x', rfl, nT, rfl, f1⟩ := y
  have g1 := f1 vs q1
  rw [h1] at g1; cases g1
  exact ⟨_, S.new nT, S.subNew nT, .tup upd_same (.cons (.int _) (.cons (h2.mono (s.trans (S.subNew nT))) .nil))⟩
theorem turn_enumC {P : Program} {w : World} {K : Fr} {elts : List Expr} {kk : Nat} {tpos : Pos} (a e it : Addr) (c : Nat) (hne : e ≠ it) (hea : e ≠ a) (hia : a ≠ it) :
    Turn P w K (.Tuple elts kk tpos) (ItC K a c) [e, it] e (fun i h => (∃ old, IsEnum h e it ((c + i : Nat) : Int) old) ∧ h.IsListIter it a i) where
  mem := by simp
  obj := fun i h st b hb => by
    obtain ⟨⟨old, he⟩, o, ho, hc, hd⟩ := st
    have e' : b = e ∨ b = it := by simpa using hb
    rcases e' with rfl | rfl
    · exact ⟨_, he, fun v q => nomatch q⟩
    · exact ⟨o, ho, fun v q => by rw [hd] at q; cases q⟩
  keep := fun i h h' st k => by
    obtain ⟨⟨old, he⟩, hi⟩ := st
    exact ⟨⟨old, k e (by simp) _ he⟩, hi.at fun o q => k it (by simp) o q⟩
  item := by
    intro X hP hw hK hc i pins s σ H E I hf st hg
    subst hP hw hK
    obtain ⟨⟨old, he⟩, hit⟩ := st
    obtain ⟨xs, x, hq, hx⟩ := hg
    obtain ⟨its, rv, p, hz⟩ := I.list hq
    obtain ⟨u, hu, ru⟩ := rv.get hx
    have hel : e < s.heap.objs.size := Heap.lt_size he
    have hil : it < s.heap.objs.size := by
      obtain ⟨_, q, _⟩ := hit
      exact Heap.lt_size q
    have hT0 : s.heap.IsList a its.toArray := p.isList
    have hlt : i < its.toArray.size := by
      have := (List.getElem?_eq_some_iff.mp hu).1
      simpa using this
    refine wpAny_pyNext_enum_itemC (Draws.list (A := X.A.in1) (I.ok.hd hc) it a hia its.toArray) he ⟨hit, hT0⟩ hlt hne (by simp [hne, hea]) fun y h' tk hy ho hst hT hsz hk => ?_
    have ey : y = u := by
      have q : its[i]? = some y := by simpa using hy
      rw [hu] at q; cases q; rfl
    subst ey
    refine ⟨_, rfl, wpAny_letOwnedTupleGo_enum (s := { s with heap := h', toks := tk + 1 }) ho fun h2 he2 sb => ?_⟩
    have hT2 : h2.get? s.heap.objs.size = some { cls := .type "tuple", data := .seq #[.int ((c + i : Nat) : Int) tk, y] } := (sb.2 _ (Nat.ne_of_gt hel)).trans hT
    have new : ObjOk X.prog X.w (upd H s.heap.objs.size (.tup [.int ((c + i : Nat) : Int), x])) h2 s.heap.objs.size (.tup [.int ((c + i : Nat) : Int), x]) :=
      ⟨by show 2 ≤ sizeLine; decide, [.int ((c + i : Nat) : Int) tk, y], .cons ⟨_, rfl⟩ (.cons ru .nil), ⟨_, hT2, rfl, _, rfl⟩⟩
    have I1 : L2.Inv X pins σ (upd H s.heap.objs.size (.tup [.int ((c + i : Nat) : Int), x])) { s with heap := h2, toks := tk + 1 } :=
      I.turnedNew (ch := [e, it]) (fun b ob hb q => (sb.2 b (fun z => hb (by simp [z]))).trans (hk b ob (fun z => hb (by simp [z])) (fun z => hb (by simp [z])) q)) hf (Nat.le_refl _) new
    refine ⟨.ref s.heap.objs.size, _, I1, rfl, ⟨_, x, rfl, I.hok.fresh (Nat.le_refl _), rfl, fun ys hy' => by rw [I.list_inj hy' hq]; exact hx⟩, ⟨⟨y, ?_⟩, hst.1.at fun o q => (sb.2 it (Ne.symm hne)).trans q⟩, fun b hb => ?_⟩
    · have e1 : ((c + (i + 1) : Nat) : Int) = ((c + i : Nat) : Int) + 1 := by omega
      rw [e1]
      exact he2
    · have e' : b = e ∨ b = it := by simpa using hb
      have hb' : b < s.heap.objs.size := by rcases e' with rfl | rfl <;> assumption
      rw [upd_ne (Nat.ne_of_lt hb')]
      exact (hf b hb).1
  done := by
    intro X hP hw hK hc i pins s σ H E I hf st hg
    subst hP hw hK
    obtain ⟨⟨old, he⟩, hit⟩ := st
    obtain ⟨xs, hq, hx⟩ := hg
    obtain ⟨its, rv, p, hz⟩ := I.list hq
    have hn : its.toArray.size = i := by
      have := rv.length
      rw [List.size_toArray]
      omega
    obtain ⟨f0, f1, f2, f3, f4, f5⟩ := hf it (by simp)
    exact wpAny_pyNext_enum_endD (Draws.list (A := X.A.in1) (I.ok.hd hc) it a hia its.toArray) he ⟨by rw [hn]; exact hit, p.isList⟩ fun h' eb => ⟨rfl, I.turned (t' := s.toks) (fun b o hb q => eb b o hb q) f0 f1 f3 f4 f5⟩
  self := fun A i s Q E st h => by
    obtain ⟨⟨_, he⟩, _⟩ := st
    exact wpAny_pyIter_enum he h
def iEnumC (K : Fr) (c : Nat) (ta : TA) : TI := fun σ H R => ta σ H fun vs H1 => ∃ a xs, vs = [.ref a] ∧ SqL K H1 a xs ∧ R (ItC K a c) H1
theorem pi_enumC {X : Cx} {e : Expr} {ta : TA} {c : Nat} {j : Nat} {p pos tpos cp kp : Pos} {elts : List Expr} {kk : Nat} (hg : Gl X "enumerate") (hm : X.mg "enumerate" = none) (ha : PA X [e] ta) (hc : c < 1000)
    (hs : backTo pos (starEach [e] X.env) = [(false, eval e X.env)] := by rfl) :
    PI X (.Tuple elts kk tpos) (.Call (.Name "enumerate" p) [e] [⟨some "start", .Constant (.int (c : Nat)) j cp, kp⟩] pos) (iEnumC X.K c ta) := by
  refine ⟨fun pins s σ H R I h => ?_⟩
  refine wpAny_Call_Name_kw (ld_blt I hg hm PyProof.Rows.boot_enumerate ?_)
  refine ZS.callWith_typeK (by rw [hs]; rfl) rfl ?_
  have h0 := ha.run pos pins s σ H _ I h
  rw [hs] at h0 ⊢
  refine evalArgs_kwB rfl ?_
  refine thn h0 fun us s1 ⟨vs, H1, I1, r1, a, xs, ex, hq, q⟩ => ?_
  show wpAny _ _ (evalAll [_]) _ _ s1
  refine evalAll_cons (wpAny_bind ?_)
  refine thn (pe_int.run pins s1 σ H1 (fun v' H' => v' = .int (c : Nat) ∧ H' = H1) I1 ⟨rfl, rfl⟩) fun u0 s2 ⟨v0, H2, I2, r0, e0, e2⟩ => ?_
  subst e0 e2
  obtain ⟨t0, r0⟩ := r0
  subst r0
  refine wpAny_bind (wpAny_standAt (wpAny_pure (evalAll_nil ?_)))
  subst ex
  obtain ⟨u, eu, ru⟩ := vals1 r1
  subst eu
  cases ru
  obtain ⟨its, rv, p1, hz⟩ := I2.list hq
  have hal : a < s2.heap.objs.size := p1.lt
  refine enum_begins_start (begins_list a its.toArray) p1.isList (by omega) (by omega) fun h' he hit hsz hk => wpAny_pyIter_enum he ?_
  have I3 : L2.Inv X pins σ H2 { s2 with heap := h' } := I2.kept (t' := s2.toks) hk
  refine ⟨s2.heap.objs.size + 1, [s2.heap.objs.size + 1, s2.heap.objs.size], _, _, H2, rfl, I3, turn_enumC a (s2.heap.objs.size + 1) s2.heap.objs.size c (Nat.succ_ne_self _) (fun z => ?_) (Nat.ne_of_lt hal), ⟨⟨.none, he⟩, ⟨_, hit, rfl, rfl⟩⟩, fun b hb => ?_, q⟩
  · exact absurd (z ▸ hal) (Nat.not_lt_of_le (Nat.le_succ _))
  · have e' : b = s2.heap.objs.size + 1 ∨ b = s2.heap.objs.size := by simpa using hb
    have hle : s2.heap.objs.size ≤ b := by
      rcases e' with rfl | rfl
      · exact Nat.le_succ _
      · exact Nat.le_refl _
    exact I2.fpOk hle (I2.hok.fresh hle)
def iEnC (c : Nat) (f : Df) : If := fun env => (f env).bind fun r => match r.1 with
  | .list ds => some (numbered c ds, r.2)
  | _ => none
section
variable {X : Cx} {Tb : TbT} {e : Expr} {p pos tpos cp kp : Pos} {elts : List Expr} {kk c j : Nat}
theorem di_enumC {f : Df} (hg : Gl X "enumerate") (hm : X.mg "enumerate" = none) (h : PE X e (tD (X.kg Tb) f)) (hc : c < 1000 := by decide) (hs : starEach [e] X.env = [(false, eval e X.env)] := by rfl) (hs2 : backTo pos (starEach [e] X.env) = [(false, eval e X.env)] := by rfl) :
    PI X (.Tuple elts kk tpos) (.Call (.Name "enumerate" p) [e] [⟨some "start", .Constant (.int (c : Nat)) j cp, kp⟩] pos) (iD (X.kg Tb) (iEnC c f)) :=
  PIi (pi_enumC hg hm (pa_cons h pa_nil hs) hc hs2) fun σ H R ⟨B, F, env, ds, env', S, ef, k⟩ => by
    obtain ⟨⟨d, e1⟩, q, ef⟩ := bd ef
    cases d <;> first | (cases ef; done) | skip
    cases ef
    refine ⟨B, F, env, _, _, S, q, fun v F' H' S' s' hd => ?_⟩
    cases hd with
    | lst hq hd => exact ⟨_, _, rfl, SqL.of (S'.fh.lst hq), k _ F' H' S' s' (walks_enumC hq hd)⟩
end
end DL
namespace DL
open PySem PySem.Spec PyProof.Rows L2
def mLst (fs : List Mf) : Mf := fun env => (evM fs env).bind fun r => if r.1.length ≤ 100000 then some (.lp (shP r.1), .list (r.1.map (·.2)), r.2) else none
section
variable {X : Cx} {Tb : TbT} {e : Expr} {es : List Expr} {x : Str} {p pos : Pos}
theorem loose_cons {K : Fg} {B : Bs} {F H : Hp} {σ : L2.St} {env : En} {a : Addr} {o : HO} {L : Nodes} (S : Sl K B F H σ env) (ha : H a = none) (lo : Loose B F H σ env L) : Loose B F (upd H a o) σ env ((a, o) :: L) := fun r hr => by
  rcases List.mem_cons.mp hr with rfl | hr
  · exact ⟨upd_same, S.fh.none ha, S.fresh ha, fun i y o => S.neOw ha o, S.neX ha⟩
  · obtain ⟨g1, g2⟩ := lo r hr
    exact ⟨by rw [upd_ne (ne_of_none g1 ha)]; exact g1, g2⟩
theorem ndp_cons {B : Bs} {F H : Hp} {σ : L2.St} {env : En} {a : Addr} {o : HO} {L : Nodes} (ha : H a = none) (nd : Ndp L) (lo : Loose B F H σ env L) : Ndp ((a, o) :: L) := by
  refine List.nodup_cons.mpr ⟨fun z => ?_, nd⟩
  obtain ⟨r, hr, e⟩ := List.mem_map.mp z
  have := (lo r hr).1
  dsimp only at e
  rw [e, ha] at this; cases this
theorem dm_lst {fs : List Mf} (h : PA X es (tMA (X.kg Tb) fs)) : PE X (.List es pos) (tM (X.kg Tb) (mLst fs)) := PEi (pe_lst h) fun σ H Q ⟨B, F, env, s, d, env', S, ef, k⟩ => by
  obtain ⟨⟨ts, e1⟩, q, ef⟩ := bd ef
  dsimp only at ef
  split at ef
  · rename_i hl
    cases ef
    refine ⟨B, F, env, ts, _, S, q, fun vs L F' H' S' s' t nd lo => ⟨by rw [t.length, List.length_map]; exact szL hl, fun a ha => ?_⟩⟩
    exact k (.ref a) ((a, .lst vs) :: L) F' _ (S'.laid ha) s' (.lp t) (ndp_cons ha nd lo) (loose_cons S' ha lo)
  · cases ef
end
def scal : D → Bool
  | .none => true
  | .bool _ => true
  | .int _ => true
  | .str _ => true
  | _ => false
theorem Dt.scal {K : Fg} {F G : Hp} {v : V} {d : D} (h : Dt K F v d) (s : DL.scal d = true) : Dt K G v d := by
  cases h with
  | non => exact .non
  | bl b => exact .bl b
  | int b => exact .int b
  | str b => exact .str b
  | _ => cases s
def simX : D ⊕ Ex → Bool
  | .inl d => scal d
  | .inr x => match x.fld with
    | none => true
    | some (_, d) => scal d
def eCallXB (g : List D → Option ((D ⊕ Ex) × List D)) (os : List Op3) : Dx := fun env => (evB os env).bind fun r => (lookB r.1 r.2).bind fun ds => (g ds).bind fun q => if q.2.isEmpty = true ∧ simX q.1 = true then some (q.1, r.2) else none
theorem callXB_le {K : Fg} {wh : Wh} {g : List D → Option ((D ⊕ Ex) × List D)} {os : List Op3} {fl : List Bool} (hfl : fl = List.replicate os.length false) : ∀ σ H Q, tX K wh (eCallXB g os) σ H Q → tCallS (spX K fl .fz g) (WE wh.W) (tArB K os) σ H Q := fun σ H Q ⟨B, F, env, r0, env', S, ef, kd, kx⟩ => by
  obtain ⟨⟨us, e1⟩, q1, ef⟩ := bd ef
  obtain ⟨ds, q2, ef⟩ := bd ef
  obtain ⟨⟨r, os'⟩, q3, ef⟩ := bd ef
  dsimp only at ef
  split at ef
  · rename_i hq
    obtain ⟨ho, hsim⟩ := hq
    cases ef
    have ho : os' = [] := List.isEmpty_iff.mp ho
    subst ho
    refine ⟨B, F, env, us, _, S, q1, fun vs F1 H1 S1 s1 h1 => ?_⟩
    obtain ⟨N, lo, ha⟩ := args_b S1 h1 q2
    have fle : fl = us.map fun _ => false := by
      rw [hfl, ← evB_len q1]
      exact List.map_const'.symm
    have ntb : ∀ q, K.tb q → q ∉ N := fun q z n => by
      obtain ⟨_, m, _, y, _⟩ := lo q n
      exact S1.ntF y z
    rw [fle]
    refine ⟨lend N F1 H1, ds, _, [], [], ?_, ?_, ⟨?_, S1.tb.now, fun q z => ?_⟩, ha N lo (fun _ z => z) 0, fun i j p a => (nomatch a), q3, fun F' H' fh cl kt' s nw kp ok => ?_⟩
    · intro a o h
      by_cases n : a ∈ N
      · rw [lend_at n] at h; exact .inl h
      · rw [lend_out n] at h; exact er_lk S1.fh a o h
    · intro a m h
      by_cases n : a ∈ N
      · rw [lend_at n] at h
        obtain ⟨o, _, y, _, z⟩ := lo a n
        rw [y] at h; cases h
        cases z.1
      · rw [lend_out n] at h; exact er_no F1 a m h
    · intro a ks h
      have y := S1.kt a ks h
      by_cases n : a ∈ N
      · rw [lend_at n]; exact h
      · rw [lend_out n]; exact er_kt S1.kt a ks h
    · rw [lend_out (ntb q z)]
      exact er_none (S1.tbF z)
    · -- given back
      have out : ∀ p, p ∉ N → unlend N F' p = F' p := fun p n => if_neg n
      have at0 : ∀ p, p ∈ N → unlend N F' p = none := fun p n => if_pos n
      have fh2 : Lk (unlend N F') H' := fun a o h => by
        by_cases n : a ∈ N
        · rw [at0 a n] at h; cases h
        · rw [out a n] at h; exact fh a o h
      have cl2 : NoMk (unlend N F') := fun a m h => by
        by_cases n : a ∈ N
        · rw [at0 a n] at h; cases h
        · rw [out a n] at h; exact cl a m h
      have kp2 : ∀ p o, H1 p = some o → ¬ K.tb p → H' p = some o := fun p o h t => kp p o h (fun j z => nomatch z) t
      have kt2 : KT (unlend N F') H' := fun a ks h => by
        by_cases n : a ∈ N
        · exfalso
          obtain ⟨o, m, y1, y2, y3⟩ := lo a n
          have y4 := kp2 a o y1 (S1.ntF y2)
          rw [h] at y4; cases y4
          have := S1.kt a ks y1
          rw [y2] at this; cases this
        · rw [out a n]; exact kt'.kt a ks h
      have s2 : Sub (er F1) (unlend N F') := fun a o h m => by
        have n : a ∉ N := fun n => by
          obtain ⟨_, k, _, y, _⟩ := lo a n
          have : er F1 a = none := by unfold er; rw [y]
          rw [this] at h; cases h
        rw [out a n]
        exact s a o (by rw [lend_out n]; exact h) m
      have nw2 : ∀ p, er F1 p = none → unlend N F' p ≠ none → H1 p = none ∧ ∀ ob u, unlend N F' p = some u → H' p ≠ some (.frz ob u) := fun p z1 z2 => by
        have n : p ∉ N := fun n => z2 (at0 p n)
        rw [out p n] at z2 ⊢
        exact nw p (by rw [lend_out n]; exact z1) z2
      have mn : ∀ q ∈ ([] : List (Nat × Addr)), F1 q.2 = none := fun _ z => nomatch z
      have kpm : ∀ p o m, F1 p = some (.own m) → H1 p = some o → (∀ j : Nat, (j, p) ∉ ([] : List (Nat × Addr))) → H' p = some o := fun p o m e h _ => kp2 p o h (S1.ntF e)
      have S2 : Sl K B (mg F1 (unlend N F')) H' σ env' := S1.extT (mg_lk S1.fh fh2 mn kpm) (mg_old s2) (mg_nw nw2) kp2 (fun _ _ z => mg_mk z) (mg_new cl2) (mg_kt S1.kt S1.fh kt2 mn kpm) kt'.tb
      refine ⟨fun d v e hd => ?_, fun x cls dd e hx => ?_⟩
      · subst e
        exact kd d v _ H' rfl S2 (s1.trans (mg_old s2)) (Dt.scal hd hsim)
      · subst e
        refine kx x cls dd _ H' rfl S2 (s1.trans (mg_old s2)) ?_
        obtain ⟨x1, x2⟩ := hx
        refine ⟨x1, ?_⟩
        obtain ⟨c, fld⟩ := x
        cases fld with
        | none => exact x2
        | some fd =>
          obtain ⟨f, d⟩ := fd
          obtain ⟨a, v, y1, y2, y3, y4, y5, y6⟩ := x2
          have nF : F1 a = none := S1.fh.none y2
          have na : a ∉ N := fun n => by
            obtain ⟨o, m, z1, _⟩ := lo a n
            rw [y2] at z1; cases z1
          refine ⟨a, v, y1, S1.fresh y2, S1.neX y2, ?_, y5, Dt.scal y6 hsim⟩
          rw [mg_at (fun m w => by rw [nF] at w; cases w), out a na]
          exact y4
  · cases ef
section
variable {X : Cx} {Tb : TbT} {x : Str} {p pos : Pos} {e : Expr} {es : List Expr} {ps : List Str} {j k : Nat} {fl : List Bool} {wh : Wh} {os : List Op3} {g : List D → Option ((D ⊕ Ex) × List D)}
theorem de_callXBY (tk : L2N.Takes X wh.W) (G : GotXY X.prog X.w X.K X.mg X.base k x ps (spX (X.kg Tb) fl .fz g)) (hr : Room j X.A) (hg : Gl X x) (hfl : fl = List.replicate os.length false) (ha : PA X (e :: es) (tArB (X.kg Tb) os)) (hj : k ≤ j := by decide) (hdb : (x == ("__debug__" : Str)) = false := by decide) (he : starEach (e :: es) X.env = (false, eval e X.env) :: starEach es X.env := by rfl) (hpl : (backTo pos (starEach es X.env)).any (·.1) = false := by rfl) :
    PE X (.Call (.Name x p) (e :: es) [] pos) (tX (X.kg Tb) wh (eCallXB g os)) := by
  obtain ⟨f, fd, F, m, kp, b⟩ := G.ex
  exact PEi (pe_callS F (hr.mono hj) hg m kp b (L2N.passAt tk) ha hdb he hpl) (callXB_le hfl)
end
end DL
namespace DL
open PySem PySem.Spec PySem.W PyProof.Rows L2
def signs (x : Str) : List D := x.cps.toList.map fun c => .str ⟨#[c]⟩
def iS (f : Df) : If := fun env => (f env).bind fun r => match r.1 with
  | .str x => some (signs x, r.2)
  | _ => none
theorem walks_str {K : Fg} {F : Hp} {x : Str} : Walks K (Its x) F (signs x) := fun {B F' H σ env} S s i => by
  refine ⟨fun d e => ?_, fun hl => ?_⟩
  · unfold signs at e
    rw [List.getElem?_map] at e
    obtain ⟨c, hc, rfl⟩ := Option.map_eq_some_iff.mp e
    have hc' : x.cps[i]? = some c := by simpa using hc
    refine ⟨?_, fun z H' y => ?_⟩
    · obtain ⟨h, _⟩ := Array.getElem?_eq_some_iff.mp hc'
      exact h
    · obtain ⟨rfl, c', h1, rfl⟩ := y
      rw [hc'] at h1; cases h1
      exact ⟨F', S, Sub.refl _, .str _⟩
  · unfold signs at hl
    rw [List.length_map, Array.length_toList] at hl
    exact Nat.le_of_eq hl
section
variable {X : Cx} {Tb : TbT} {tg e : Expr} {pos : Pos}
theorem di_str {f : Df} (h : PE X e (tD (X.kg Tb) f)) : PI X tg e (iD (X.kg Tb) (iS f)) := PIi (pi_str h) fun σ H R ⟨B, F, env, ds, env', S, ef, k⟩ => by
  obtain ⟨⟨d, e1⟩, q, ef⟩ := bd ef
  cases d <;> first | (cases ef; done) | skip
  rename_i x
  cases ef
  refine ⟨B, F, env, _, _, S, q, fun v F' H' S' s' hd => ?_⟩
  exact ⟨x, hd.str_inv, k _ F' H' S' s' walks_str⟩
end
def gInS (n : Bool) : D → D → Option D
  | .str a, .str z => match a.cps.toList with
    | [c] => some (.bool (xor n (decide (c ∈ z.cps.toList))))
    | _ => none
  | _, _ => none
theorem one_sign {a : Str} {c : Nat} (h : a.cps.toList = [c]) : a = ⟨#[c]⟩ := by
  have : a.cps = #[c] := by rw [← Array.toList_inj]; exact h
  cases a; cases this; rfl
theorem ok_inS {K : Fg} : Ok2 K (fun x y H Q => ∃ (c : Nat) (z : Str), x = .str ⟨#[c]⟩ ∧ y = .str z ∧ Q (.bl (decide (c ∈ z.cps.toList))) H) (gInS false) := fun {B F H σ env x y a b d Q} S ha hb e k => by
  unfold gInS at e
  split at e
  · rename_i a z
    split at e
    · rename_i c hc
      cases e
      have := one_sign hc
      subst this
      have e1 := ha.str_inv
      have e2 := hb.str_inv
      subst e1 e2
      refine ⟨c, z, rfl, rfl, ?_⟩
      have := k (.bl (xor false (decide (c ∈ z.cps.toList)))) F H S (Sub.refl _) (.bl _)
      rw [Bool.false_xor] at this
      exact this
    · cases e
  · cases e
def gStarL (K : Fr) (n i : Nat) (t : TGs) : TG := fun v σ H Q => ∃ a xs, v = .ref a ∧ SqL K H a xs ∧ i < n ∧ n ≤ xs.length + 1 ∧ xs.length ≤ 16384 ∧ ∀ D, H D = none → t (xs.take i ++ [.ref D] ++ (xs.drop i).drop (xs.length + 1 - n)) σ (upd H D (.lst ((xs.drop i).take (xs.length + 1 - n)))) Q
section
variable {X : Cx} {Tb : TbT} {pos : Pos}
theorem pg_starL {es : List Expr} {k : Nat} {t : TGs} {n i : Nat} (hc : X.calm = true) (h : PGs X es t) (hn : (assignEach es X.env).length = n := by rfl) (hst : (assignEach es X.env).findIdx? (·.1) = some i := by rfl) : PG X (.Tuple es k pos) (gStarL X.K n i t) := by
  refine ⟨fun pins s σ H v u Q I r hw => ?_⟩
  obtain ⟨a, xs, e1, hq, hi, hn', hz, hw⟩ := hw
  subst e1
  cases r
  obtain ⟨its, rv, p, _⟩ := I.list hq
  have ht : s.heap.IsList a its.toArray := p.isList
  have hh : X.A.handled = none := I.ok.hd hc
  have hl := rv.length
  have hsz : its.toArray.size = xs.length := by simp [hl]
  have hlt : a ≠ s.heap.objs.size := Nat.ne_of_lt p.lt
  rw [assign_Tuple]
  refine wpAny_bind (wpAny_standAt ?_)
  unfold unpack
  rw [hn, hst]
  refine wpAny_bind (wpAny_holding ?_)
  unfold unpackItems
  refine wpAny_bind ?_
  unfold notIterableAtAll
  refine wpAny_bind (wpAny_specialOf ht.typeIs slot_list_iter.lookup ?_)
  refine wpAny_pure ?_
  simp only [Bool.false_eq_true, if_false]
  refine wpAny_bind (wpAny_holding (wpAny_pyIter_list ht ?_))
  refine wpAny_bind (wpAny_holding (kun_draw hlt i 0 _ _ ⟨_, Heap.get?_push_size _ rfl, rfl, rfl⟩ (ht.push _) (by omega) fun h₁ hit₁ hs₁ => ?_))
  have hl₁ : h₁.IsList a its.toArray := (ht.push _).extBut hs₁.extBut hlt
  rw [Nat.zero_add] at hit₁
  have hit₁' := hit₁
  obtain ⟨oi, hoi, _⟩ := hit₁'
  have hl₁' := hl₁
  obtain ⟨ol, hol, _⟩ := hl₁'
  rw [List.drop_zero]
  have hfl : (its.toArray.toList.take i).length = i := by rw [List.length_take, Array.length_toList]; omega
  rw [if_neg (show ¬ ((its.toArray.toList.take i).length < i) by rw [hfl]; omega)]
  refine wpAny_bind (wpAny_holding (kun_collect (s := { s with heap := h₁ }) (T := "list_iterator") (.inr (.inr (.inl rfl))) (Walks.list (A := X.A.in1) hh s.heap.objs.size a hlt its.toArray) (fun j u st => st.1.typeIs) (k := i) (by omega) ⟨hit₁, hl₁⟩ (Heap.lt_size hoi) (Heap.lt_size hol) (fun h₂ tk hk => ?_) (by rw [sizeLine_eq]; omega)))
  have hrl : (its.toArray.toList.drop i).length = its.toArray.size - i := by rw [List.length_drop, Array.length_toList]
  have hmid : (its.toArray.toList.drop i).length - (n - 1 - i) = xs.length + 1 - n := by rw [hrl]; omega
  show wpAny _ _ (if (its.toArray.toList.drop i).length < n - 1 - i then _ else _) _ _ _
  rw [if_neg (by rw [hrl]; omega)]
  show wpAny _ _ (newList ((its.toArray.toList.drop i).take ((its.toArray.toList.drop i).length - (n - 1 - i))) >>= fun d => pure (its.toArray.toList.take i ++ [d] ++ (its.toArray.toList.drop i).drop ((its.toArray.toList.drop i).length - (n - 1 - i)))) _ _ _
  rw [hmid]
  have he : Heap.ExtBut s.heap.objs.size s.heap h₂ := fun b o hb e => hk b o hb (hs₁.extBut b o hb (Heap.get?_push_of_some _ e))
  have I1 : Inv X pins σ H { s with heap := h₂, toks := tk } := I.kept fun b o e => he b o (Nat.ne_of_lt (Heap.lt_size e)) e
  have rm : Vals ((xs.drop i).take (xs.length + 1 - n)) ((its.drop i).take (xs.length + 1 - n)) := (rv.drop _).take _
  refine wpAny_bind (wpAny_newList ?_ (by rw [List.length_take, hrl, sizeLine_eq]; omega))
  refine wpAny_pure ?_
  have I2 := I1.lnew (t' := tk) rm (by rw [List.length_take, sizeLine_eq]; omega)
  refine h.run pins _ σ _ _ _ Q I2 ?_ (hw _ I1.fresh)
  have rD : RelV (.ref h₂.objs.size) (.ref h₂.objs.size) := rfl
  exact ((rv.take i).append (.cons rD .nil)).append ((rv.drop i).drop _)
/-- n targets, the one at i starred, of a list -/
def tgStarL (n i : Nat) (r : List D → En → Option En) : Tg := fun d env => match d with
  | .list ds => if i < n ∧ n ≤ ds.length + 1 ∧ ds.length ≤ 16384 then r (ds.take i ++ [.list ((ds.drop i).take (ds.length + 1 - n))] ++ (ds.drop i).drop (ds.length + 1 - n)) env else none
  | _ => none
theorem dg_starL {es : List Expr} {k n i : Nat} {r : List D → En → Option En} {ts : List Nat} (hc : X.calm = true) (h : PGs X es (gsD (X.kg Tb) r ts)) (hn : (assignEach es X.env).length = n := by rfl) (hst : (assignEach es X.env).findIdx? (·.1) = some i := by rfl) : PG X (.Tuple es k pos) (gD (X.kg Tb) (tgStarL n i r) ts) :=
  PGi (pg_starL hc h hn hst) fun v σ H Q ⟨B, F, env, d, env', S, hd, et, k⟩ => by
    unfold tgStarL at et
    split at et
    · split at et
      · rename_i ds hl
        cases hd with
        | @lst a xs _ hq hd =>
          refine ⟨_, _, rfl, SqL.of (S.fh.lst hq), hl.1, by rw [hd.length]; exact hl.2.1, by rw [hd.length]; exact hl.2.2, fun Dl hD => ?_⟩
          refine ⟨B, _, env, _, env', S.new hD, ?_, et, fun σ' F' H' S' s' b => k σ' F' H' S' ((S.subNew hD).trans s') b⟩
          rw [hd.length]
          have m := hd.mono (S.subNew (o := .lst ((xs.drop i).take (ds.length + 1 - n))) hD)
          exact ((m.take i).append (.cons (.lst upd_same ((m.drop i).take _)) .nil)).append ((m.drop i).drop _)
      · cases et
    · cases et
def tgStarO (i j : Nat) : Tg := fun d env => match d with
  | .tuple (d0 :: ds) => if ds.length ≤ 16000 then (put i (.fz d0) env).bind fun e1 => put j (.ow (.list ds)) e1 else none
  | _ => none
theorem dg_starO (i j : Nat) {x y : Str} {p1 p2 p3 : Pos} {k : Nat} (hc : X.calm = true) (hN : X.N.Nodup) (hi : X.N[i]? = some x := by rfl) (hj : X.N[j]? = some y := by rfl) (hx : Loc X.env.scope x := by first | exact Or.inl rfl | exact Or.inr rfl) (hy : Loc X.env.scope y := by first | exact Or.inl rfl | exact Or.inr rfl)
    (hf : X.fn x = true ∨ X.env.scope.names.lookup x = some .local := by first | exact .inl rfl | exact .inr rfl | assumption) (hg : X.fn y = true ∨ X.env.scope.names.lookup y = some .local := by first | exact .inl rfl | exact .inr rfl | assumption)
    (hs1 : (assignEach [.Name x p1, .Starred (.Name y p2) p3] X.env).map (·.2) = assign (.Name x p1) X.env :: (assignEach [.Starred (.Name y p2) p3] X.env).map (·.2) := by rfl) (hs2 : (assignEach [.Starred (.Name y p2) p3] X.env).map (·.2) = assign (.Name y p2) X.env :: (assignEach [] X.env).map (·.2) := by rfl)
    (hn : (assignEach [.Name x p1, .Starred (.Name y p2) p3] X.env).length = 2 := by rfl) (hst : (assignEach [.Name x p1, .Starred (.Name y p2) p3] X.env).findIdx? (·.1) = some 1 := by rfl) :
    PG X (.Tuple [.Name x p1, .Starred (.Name y p2) p3] k pos) (gD (X.kg Tb) (tgStarO i j) [i, j]) :=
  PGi (pg_star hc (pgs_cons (pg_name hN hi hx hf) (pgs_starred (pg_name hN hj hy hg) pgs_nil hs2) hs1) hn hst) fun v σ H Q ⟨B, F, env, d, env', S, hd, et, k⟩ => by
    unfold tgStarO at et
    split at et
    · split at et
      · rename_i d0 ds hl
        obtain ⟨e1, q1, et⟩ := bd et
        obtain ⟨hi', np, rfl⟩ := put_inv q1
        obtain ⟨hj', np2, rfl⟩ := put_inv et
        cases hd with
        | @tup a xs _ hq hd =>
          cases hd with
          | @cons v0 vs _ _ h0 ht =>
            have hlen := ht.length
            refine ⟨a, v0 :: vs, rfl, SqT.of (S.fh.tup hq), by decide, by simp, by simp; omega, fun Dl hD => ?_⟩
            have e1 : (v0 :: vs).length + 1 - 2 = vs.length := by simp
            rw [e1]
            simp only [List.take_succ_cons, List.take_zero, List.drop_succ_cons, List.drop_zero, List.take_length, List.drop_length, List.singleton_append, List.append_nil]
            refine ⟨_, _, rfl, ?_⟩
            have nF := S.fh.none hD
            have n0 := S.fresh hD
            have nX := S.neX hD
            have S1 := (S.laid (o := .lst vs) hD).set hi' np h0
            have no : ∀ i' d', IsOw (env.set i (.fz d0)) i' d' → (σ.set i (some v0))[i']? ≠ some (some (.ref Dl)) := fun i' d' o z => by
              obtain ⟨q, z1, z2, z3, _⟩ := S1.own i' d' o
              rw [z] at z1; cases z1
              obtain ⟨u, hu, _⟩ := z3.some
              rcases o with o | o
              · by_cases hii : i' = i
                · subst hii
                  rw [List.getElem?_set_self hi'] at o; cases o
                · rw [List.getElem?_set_ne (Ne.symm hii)] at o
                  rw [sset_other hii] at z
                  exact S.neOw hD (.inl o) z
              · by_cases hii : i' = i
                · subst hii
                  rw [List.getElem?_set_self hi'] at o; cases o
                · rw [List.getElem?_set_ne (Ne.symm hii)] at o
                  rw [sset_other hii] at z
                  exact S.neOw hD (.inr o) z
            have S2 := S1.setO hj' np2 (p := Dl) (d := .list ds) nF n0 no nX ⟨vs, upd_same, ht⟩
            refine ⟨_, _, rfl, rfl, k _ F _ S2 (Sub.refl _) ⟨by simp, fun l hl => ?_⟩⟩
            simp only [List.mem_cons, List.not_mem_nil, or_false, not_or] at hl
            rw [sset_other hl.2, sset_other hl.1]
      · cases et
    · cases et
end
end DL
namespace DL
open PySem PySem.Spec PyProof.Rows L2
open Sem (wp)
namespace ZT
open ZS
section
variable {prog : Program} {w : World} {A : Around} {E : Value → Shared → Prop} {s : Shared}
theorem nx_itemD {it : Addr} {fp : List Addr} {n i : Nat} {P : Nat → Value → Prop} {St : Nat → Heap → Prop} {Q : Option Value → Shared → Prop} (D : Draws prog w A it fp n P St) (st : St i s.heap) (hi : i < n)
    (fin : ∀ x h' tk, P i x → St (i + 1) h' → Heap.SameBut it s.heap h' → Q (some x) { s with heap := h', toks := tk }) : wpAny (model prog w) A (Builtin.SmallTypes.nextOrEnd (.ref it)) Q E s := by
  unfold Builtin.SmallTypes.nextOrEnd
  exact wpAny_bind (wpAny_attempt (D.item i s _ _ hi st fun x h' tk a b c => wpAny_pure (fin x h' tk a b c)))
theorem nx_endD {it : Addr} {fp : List Addr} {n : Nat} {P : Nat → Value → Prop} {St : Nat → Heap → Prop} {Q : Option Value → Shared → Prop} (D : Draws prog w A it fp n P St) (st : St n s.heap)
    (fin : ∀ h', Heap.ExtBut it s.heap h' → Q none { s with heap := h' }) : wpAny (model prog w) A (Builtin.SmallTypes.nextOrEnd (.ref it)) Q E s := by
  unfold Builtin.SmallTypes.nextOrEnd
  refine wpAny_bind (wpAny_attempt (D.done s _ _ st fun h' e k he => ?_))
  obtain ⟨o, ho, hc⟩ := he
  exact wpAny_bind (wpAny_isInstance (T := "StopIteration") (b := true) ⟨o, ho, hc⟩ isSubtype_stop (wpAny_pure (fin h' k)))
variable {z TI TO i1 i2 : Addr} {fp1 fp2 : List Addr} {n1 n2 i : Nat} {P1 P2 : Nat → Value → Prop} {St1 St2 : Nat → Heap → Prop} {a b : Value}
theorem item_sD {Q : Value → Shared → Prop} (S : ZipSep2 z TI TO i1 i2 fp1 fp2) (D1 : Draws prog w A i1 fp1 n1 P1 St1) (D2 : Draws prog w A i2 fp2 n2 P2 St2)
    (hz : IsZipS s.heap z TI TO .none) (pI : IsPair s.heap TI (.ref i1) (.ref i2)) (pO : IsPair s.heap TO a b) (st1 : St1 i s.heap) (st2 : St2 i s.heap) (l1 : i < n1) (l2 : i < n2)
    (fin : ∀ x y h' tk, P1 i x → P2 i y → IsZipS h' z TI TO (rawInt s.heap.objs.size) → IsPair h' TO x y → St1 (i + 1) h' → St2 (i + 1) h' → IsPair h' s.heap.objs.size x y → h'.objs.size = s.heap.objs.size + 1 →
      (∀ c o, c ≠ z → c ≠ TO → c ≠ i1 → c ≠ i2 → s.heap.get? c = some o → h'.get? c = some o) → Q (.ref s.heap.objs.size) { s with heap := h', toks := tk }) :
    wpAny (model prog w) A (Builtin.«zip.__next__» ⟨[.ref z], []⟩) (fun r s' => ∃ v, r = .done (.ret v) ∧ Q v s') E s := by
  show wpAny _ _ (field (.ref z) 2 >>= _) _ _ _
  refine wpAny_bind (wpAny_field hz rfl (x := .bool true) rfl ?_)
  show wpAny _ _ (field (.ref z) 3 >>= _) _ _ _
  refine wpAny_bind (wpAny_field hz rfl (x := .ref TI) rfl (wpAny_bind (wpAny_seqItems pI rfl ?_)))
  show wpAny _ _ (Builtin.SmallTypes.ownedTupleIsFree (.ref z) >>= _) _ _ _
  refine wpAny_bind ?_
  unfold Builtin.SmallTypes.ownedTupleIsFree
  refine wpAny_bind (wpAny_field hz rfl (x := .none) rfl (wpAny_pure ?_))
  simp only [if_true]
  refine wpAny_bind (wpAny_rule (wpAny_bind (wpAny_field hz rfl (x := .ref TO) rfl (wpAny_bind (wpAny_setField_rec hz (by simp) fun g1 z1 b1 => ?_)))))
  have z1 : IsZipS g1 z TI TO .ellipsis := z1
  refine wpAny_bind ?_
  simp only [List.zipIdx_cons, List.zipIdx_nil, List.forIn_cons, List.forIn_nil]
  refine wpAny_bind (wpAny_bind (wpAny_onRaise ?_))
  show wpAny _ _ (Builtin.SmallTypes.nextOrEnd (.ref i1)) _ _ _
  refine nx_itemD D1 (D1.over st1 b1 S.zf1) l1 fun x g2 tk2 px v1 b2 => ?_
  have pO2 : IsPair g2 TO a b := b2.extBut _ _ S.Ti1 (b1.extBut _ _ S.TOz pO)
  refine wpAny_bind (wpAny_seqItems pO2 rfl (wpAny_bind (wpAny_updateSeq_pair pO2 fun g3 pO3 b3 => wpAny_bind (wpAny_letGo (wpAny_pure ?_)))))
  have pO3 : IsPair g3 TO x b := pO3
  refine wpAny_bind (wpAny_bind (wpAny_onRaise ?_))
  show wpAny _ _ (Builtin.SmallTypes.nextOrEnd (.ref i2)) _ _ _
  refine nx_itemD D2 (D2.over (D2.over (D2.over st2 b1 S.zf2) b2 S.sep1_2) b3 S.Tf2) l2 fun y g4 tk4 py v2 b4 => ?_
  have pO4 : IsPair g4 TO x b := b4.extBut _ _ S.Ti2 pO3
  refine wpAny_bind (wpAny_seqItems pO4 rfl (wpAny_bind (wpAny_updateSeq_pair pO4 fun g5 pO5 b5 => wpAny_bind (wpAny_letGo (wpAny_pure (wpAny_pure ?_))))))
  have pO5 : IsPair g5 TO x y := pO5
  refine wpAny_bind (wpAny_seqItems pO5 rfl (wpAny_bind (wpAny_newTuple ?_)))
  have sz : g5.objs.size = s.heap.objs.size := (((b5.1.trans b4.1).trans b3.1).trans b2.1).trans b1.1
  have z5 : IsZipS g5 z TI TO .ellipsis := b5.extBut _ _ S.TOz.symm (b4.extBut _ _ S.zi2 (b3.extBut _ _ S.TOz.symm (b2.extBut _ _ S.zi1 z1)))
  have old : ∀ c o, c ≠ z → c ≠ TO → c ≠ i1 → c ≠ i2 → s.heap.get? c = some o → g5.get? c = some o := fun c o c1 c2 c3 c4 e => b5.extBut _ _ c2 (b4.extBut _ _ c4 (b3.extBut _ _ c2 (b2.extBut _ _ c3 (b1.extBut _ _ c1 e))))
  have u1 : St1 (i + 1) g5 := D1.over (D1.over (D1.over v1 b3 S.Tf1) b4 S.sep2_1) b5 S.Tf1
  have u2 : St2 (i + 1) g5 := D2.over v2 b5 S.Tf2
  have zl : z < g5.objs.size := Heap.lt_size z5
  show wpAny _ _ (Builtin.SmallTypes.ownedTupleHandOut (.ref z) (.ref g5.objs.size) >>= _) _ _ _
  refine wpAny_bind ?_
  unfold Builtin.SmallTypes.ownedTupleHandOut
  have z6 : IsZipS (g5.push { cls := .type "tuple", data := .seq #[x, y] }) z TI TO .ellipsis := Heap.get?_push_of_some _ z5
  refine wpAny_bind (wpAny_setField_rec z6 (by simp) fun g7 z7 b7 => ?_)
  have z7 : IsZipS g7 z TI TO (rawInt g5.objs.size) := z7
  refine wpAny_setField_rec z7 (by simp) fun g8 z8 b8 => ?_
  have z8 : IsZipS g8 z TI TO (rawInt g5.objs.size) := z8
  have up : ∀ c o, c ≠ z → g5.get? c = some o → g8.get? c = some o := fun c o c1 e => b8.extBut _ _ c1 (b7.extBut _ _ c1 (Heap.get?_push_of_some _ e))
  have p8 : IsPair g8 g5.objs.size x y := b8.extBut _ _ (Nat.ne_of_gt zl) (b7.extBut _ _ (Nat.ne_of_gt zl) (Heap.get?_push_size _ rfl))
  have s8 : g8.objs.size = g5.objs.size + 1 := by rw [b8.1, b7.1, Heap.size_push]
  rw [sz] at z8 p8 s8
  refine wpAny_pure ⟨_, rfl, ?_⟩
  rw [sz]
  exact fin x y g8 tk4 px py z8 (up _ _ S.TOz pO5) (D1.frame _ _ _ u1 fun c hc o e => up c o (fun q => S.zf1 (q ▸ hc)) e) (D2.frame _ _ _ u2 fun c hc o e => up c o (fun q => S.zf2 (q ▸ hc)) e) p8 s8 fun c o c1 c2 c3 c4 e => up _ _ c1 (old c o c1 c2 c3 c4 e)
theorem end_sD {Q : Fin → Shared → Prop} (hh : A.handled = none) (S : ZipSep2 z TI TO i1 i2 fp1 fp2) (D1 : Draws prog w A i1 fp1 n1 P1 St1) (D2 : Draws prog w A i2 fp2 n2 P2 St2)
    (hz : IsZipS s.heap z TI TO .none) (pI : IsPair s.heap TI (.ref i1) (.ref i2)) (pO : IsPair s.heap TO a b) (st1 : St1 n1 s.heap) (st2 : St2 n2 s.heap)
    (hE : ∀ h' e, (∀ c o, c ≠ z → c ≠ TO → c ≠ i1 → c ≠ i2 → s.heap.get? c = some o → h'.get? c = some o) → (∃ o, h'.get? e = some o ∧ o.cls = .type "StopIteration") → E (.ref e) { s with heap := h' }) :
    wpAny (model prog w) A (Builtin.«zip.__next__» ⟨[.ref z], []⟩) Q E s := by
  show wpAny _ _ (field (.ref z) 2 >>= _) _ _ _
  refine wpAny_bind (wpAny_field hz rfl (x := .bool true) rfl ?_)
  show wpAny _ _ (field (.ref z) 3 >>= _) _ _ _
  refine wpAny_bind (wpAny_field hz rfl (x := .ref TI) rfl (wpAny_bind (wpAny_seqItems pI rfl ?_)))
  show wpAny _ _ (Builtin.SmallTypes.ownedTupleIsFree (.ref z) >>= _) _ _ _
  refine wpAny_bind ?_
  unfold Builtin.SmallTypes.ownedTupleIsFree
  refine wpAny_bind (wpAny_field hz rfl (x := .none) rfl (wpAny_pure ?_))
  simp only [if_true]
  refine wpAny_bind (wpAny_rule (wpAny_bind (wpAny_field hz rfl (x := .ref TO) rfl (wpAny_bind (wpAny_setField_rec hz (by simp) fun g1 z1 b1 => ?_)))))
  have z1 : IsZipS g1 z TI TO .ellipsis := z1
  refine wpAny_bind ?_
  simp only [List.zipIdx_cons, List.zipIdx_nil, List.forIn_cons, List.forIn_nil]
  refine wpAny_bind (wpAny_bind (wpAny_onRaise ?_))
  show wpAny _ _ (Builtin.SmallTypes.nextOrEnd (.ref i1)) _ _ _
  refine nx_endD D1 (D1.over st1 b1 S.zf1) fun g2 b2 => ?_
  have z2 : IsZipS g2 z TI TO .ellipsis := b2 _ _ S.zi1 z1
  dsimp only
  refine wpAny_bind (wpAny_setField_rec z2 (by simp) fun g3 z3 b3 => ?_)
  have st3 : St2 n2 g3 := D2.over (D2.frame _ _ _ (D2.over st2 b1 S.zf2) fun c hc o e => b2 c o (fun q => S.sep1_2 (q ▸ hc)) e) b3 S.zf2
  refine wpAny_bind (wpAny_bind ?_)
  show wpAny _ _ (_ >>= _) _ _ _
  refine wpAny_bind ?_
  refine wpAny_bind ?_
  refine nx_endD D2 st3 fun g4 b4 => ?_
  simp only [Option.isSome_none, Bool.false_eq_true, if_false]
  refine wpAny_pure ?_
  show wpAny _ _ (pure PUnit.unit) _ _ _
  refine wpAny_pure ?_
  refine wpAny_bind (wpAny_rule (stop_s hh fun g5 e k5 he => ?_))
  exact hE g5 e (fun c o c1 _ c3 c4 q => k5 _ _ (b4 _ _ c4 (b3.extBut _ _ c1 (b2 _ _ c3 (b1.extBut _ _ c1 q))))) he
theorem next_sD {Q : Option Value → Shared → Prop} (S : ZipSep2 z TI TO i1 i2 fp1 fp2) (D1 : Draws prog w A.in1 i1 fp1 n1 P1 St1) (D2 : Draws prog w A.in1 i2 fp2 n2 P2 St2)
    (hz : IsZipS s.heap z TI TO .none) (pI : IsPair s.heap TI (.ref i1) (.ref i2)) (pO : IsPair s.heap TO a b) (st1 : St1 i s.heap) (st2 : St2 i s.heap) (l1 : i < n1) (l2 : i < n2)
    (fin : ∀ x y h' tk, P1 i x → P2 i y → IsZipS h' z TI TO (rawInt s.heap.objs.size) → IsPair h' TO x y → St1 (i + 1) h' → St2 (i + 1) h' → IsPair h' s.heap.objs.size x y → h'.objs.size = s.heap.objs.size + 1 →
      (∀ c o, c ≠ z → c ≠ TO → c ≠ i1 → c ≠ i2 → s.heap.get? c = some o → h'.get? c = some o) → Q (some (.ref s.heap.objs.size)) { s with heap := h', toks := tk }) :
    wpAny (model prog w) A (pyNext (.ref z)) Q E s := by
  have hT : s.TypeIs (.ref z) "zip" := ⟨_, hz, rfl⟩
  unfold pyNext
  exact wpAny_bind (wpAny_attempt (wpAny_callSpecial?_slot (name := Str.ofString "__next__") hT F.slot_zip_next
    (wpAny_call_entry F.slot_zip_next hT F.entry_zip_next
      (item_sD S D1 D2 hz pI pO st1 st2 l1 l2 fun x y h' tk a0 a1 a2 a3 a4 a5 a6 a7 a8 => wpAny_pure (fin x y h' tk a0 a1 a2 a3 a4 a5 a6 a7 a8)) (F.args_zip_next_1 _))))
theorem last_sD {Q : Option Value → Shared → Prop} (hh : A.handled = none) (S : ZipSep2 z TI TO i1 i2 fp1 fp2) (D1 : Draws prog w A.in1 i1 fp1 n1 P1 St1) (D2 : Draws prog w A.in1 i2 fp2 n2 P2 St2)
    (hz : IsZipS s.heap z TI TO .none) (pI : IsPair s.heap TI (.ref i1) (.ref i2)) (pO : IsPair s.heap TO a b) (st1 : St1 n1 s.heap) (st2 : St2 n2 s.heap)
    (fin : ∀ h', (∀ c o, c ≠ z → c ≠ TO → c ≠ i1 → c ≠ i2 → s.heap.get? c = some o → h'.get? c = some o) → Q none { s with heap := h' }) : wpAny (model prog w) A (pyNext (.ref z)) Q E s := by
  have hT : s.TypeIs (.ref z) "zip" := ⟨_, hz, rfl⟩
  unfold pyNext
  refine wpAny_bind (wpAny_attempt (wpAny_callSpecial?_slot (name := Str.ofString "__next__") hT F.slot_zip_next
    (wpAny_call_entry F.slot_zip_next hT F.entry_zip_next (end_sD hh S D1 D2 hz pI pO st1 st2 fun h' e hk he => ?_) (F.args_zip_next_1 _))))
  obtain ⟨o, ho, hc⟩ := he
  refine wpAny_bind (wpAny_isInstance (T := "StopIteration") (b := true) ⟨o, ho, hc⟩ isSubtype_stop ?_)
  exact wpAny_pure (fin _ hk)
end
abbrev h1T (h : Heap) (o1 o2 : Obj) : Heap := ((h.push o1).push o2).push { cls := .type "tuple", data := .seq #[.ref h.objs.size, .ref (h.push o1).objs.size] }
abbrev h1O (h : Heap) (o1 o2 : Obj) : Heap := (h1T h o1 o2).push { cls := .type "tuple", data := .seq #[.none, .none] }
abbrev h1Z (h : Heap) (o1 o2 : Obj) : Heap := (h1O h o1 o2).push { cls := .type "zip", data := .fields #[.none, .bool false, .bool true, .ref ((h.push o1).push o2).objs.size, .ref (h1T h o1 o2).objs.size] }
theorem meets_sB {v1 v2 : Value} {o1 o2 : Obj} {H1 H2 : Heap → Prop} (B1 : Begins v1 o1 H1) (B2 : Begins v2 o2 H2) :
    Meets (Builtin.«zip.__new__» ⟨[.type "zip", v1, v2], kwS⟩) (fun _ R s => (H1 s.heap ∧ H2 s.heap) ∧ R (.ok (.ret (.ref (h1O s.heap o1 o2).objs.size))) { s with heap := h1Z s.heap o1 o2 }) :=
  .of_wp fun prog w A R s h => by
    obtain ⟨hp, g, d, tk, os⟩ := s
    obtain ⟨⟨hh1, hh2⟩, h⟩ := h
    have hsub := sub_zip
    have q1 : ∀ {A' : Around} {E : Value → Shared → Prop} {Q : Value → Shared → Prop}, Q (.ref hp.objs.size) ⟨(hp.push o1), g, d, tk, os⟩ → wpAny (model prog w) A' (pyIter v1) Q E ⟨hp, g, d, tk, os⟩ := fun q => B1.iter prog w _ _ ⟨hp, g, d, tk, os⟩ _ hh1 q
    have q2 : ∀ {A' : Around} {E : Value → Shared → Prop} {Q : Value → Shared → Prop}, Q (.ref (hp.push o1).objs.size) ⟨((hp.push o1).push o2), g, d, tk, os⟩ → wpAny (model prog w) A' (pyIter v2) Q E ⟨(hp.push o1), g, d, tk, os⟩ := fun q => B2.iter prog w _ _ ⟨(hp.push o1), g, d, tk, os⟩ _ (B2.keeps _ _ hh2 fun b o' e => (Heap.get?_push_of_some _ e)) q
    wp_walk using q1, q2
    exact ⟨_, rfl, h⟩
section
variable {prog : Program} {w : World} {A : Around} {E : Value → Shared → Prop} {s : Shared}
theorem call_sB {v1 v2 : Value} {o1 o2 : Obj} {H1 H2 : Heap → Prop} {Q : Value → Shared → Prop} (B1 : Begins v1 o1 H1) (B2 : Begins v2 o2 H2) (p1 : H1 s.heap) (p2 : H2 s.heap)
    (fin : ∀ h', IsZipS h' (s.heap.objs.size + 4) (s.heap.objs.size + 2) (s.heap.objs.size + 3) .none → IsPair h' (s.heap.objs.size + 2) (.ref s.heap.objs.size) (.ref (s.heap.objs.size + 1)) →
      IsPair h' (s.heap.objs.size + 3) .none .none → h'.get? s.heap.objs.size = some o1 → h'.get? (s.heap.objs.size + 1) = some o2 → h'.objs.size = s.heap.objs.size + 5 →
      (∀ c o, s.heap.get? c = some o → h'.get? c = some o) → Q (.ref (s.heap.objs.size + 4)) { s with heap := h' }) :
    wpAny (model prog w) A (call (.type "zip") [v1, v2] kwS) Q E s := by
  refine callType_newKw F.called_zip (by decide) (typeCall_s _ _) (newCall_s _ _) (fun obj => args_init_s obj _ _) F.entry_zip_new (meets_sB B1 B2) ⟨⟨p1, p2⟩, ?_⟩
  have m1 : (s.heap.push o1).objs.size = s.heap.objs.size + 1 := Heap.size_push ..
  have m2 : ((s.heap.push o1).push o2).objs.size = s.heap.objs.size + 2 := by rw [Heap.size_push, m1]
  have m3 : (h1T s.heap o1 o2).objs.size = s.heap.objs.size + 3 := by rw [Heap.size_push, m2]
  have m4 : (h1O s.heap o1 o2).objs.size = s.heap.objs.size + 4 := by rw [Heap.size_push, m3]
  have m5 : (h1Z s.heap o1 o2).objs.size = s.heap.objs.size + 5 := by rw [Heap.size_push, m4]
  have e5 : (h1Z s.heap o1 o2).get? (h1O s.heap o1 o2).objs.size = some _ := Heap.get?_push_size _ rfl
  have e4 : (h1Z s.heap o1 o2).get? (h1T s.heap o1 o2).objs.size = some _ := Heap.get?_push_of_some _ (Heap.get?_push_size _ rfl)
  have e3 : (h1Z s.heap o1 o2).get? ((s.heap.push o1).push o2).objs.size = some _ := Heap.get?_push_of_some _ (Heap.get?_push_of_some _ (Heap.get?_push_size _ rfl))
  have e2 : (h1Z s.heap o1 o2).get? (s.heap.push o1).objs.size = some _ := Heap.get?_push_of_some _ (Heap.get?_push_of_some _ (Heap.get?_push_of_some _ (Heap.get?_push_size _ B2.free)))
  have e1 : (h1Z s.heap o1 o2).get? s.heap.objs.size = some _ := Heap.get?_push_of_some _ (Heap.get?_push_of_some _ (Heap.get?_push_of_some _ (Heap.get?_push_of_some _ (Heap.get?_push_size _ B1.free))))
  show _ ∧ _
  rw [m2, m3, m4] at e5
  rw [m1, m2] at e3
  rw [m3] at e4
  rw [m1] at e2
  rw [m4]
  exact ⟨⟨_, e5, rfl⟩, fin _ e5 e3 e4 e1 e2 m5 fun c o x => Heap.get?_push_of_some _ (Heap.get?_push_of_some _ (Heap.get?_push_of_some _ (Heap.get?_push_of_some _ (Heap.get?_push_of_some _ x))))⟩
end
/-- the text's signs and the list at b, in pairs; st: both end together -/
def ItSL (K : Fr) (x : Str) (b : Addr) (st : Bool) : It :=
  ⟨fun i H => ∃ (ys : List V) (y : V), SqL K H b ys ∧ i < x.cps.size ∧ ys[i]? = some y,
    fun i H v H' => ∃ T c y, v = .ref T ∧ H T = none ∧ H' = upd H T (.tup [.str ⟨#[c]⟩, y]) ∧ x.cps[i]? = some c ∧ ∀ ys, SqL K H b ys → ys[i]? = some y,
    fun i H => ∃ ys : List V, SqL K H b ys ∧ i ≤ x.cps.size ∧ i ≤ ys.length ∧ (if st = true then i = x.cps.size ∧ i = ys.length else i = x.cps.size ∨ i = ys.length)⟩
theorem sep_of {z TI TO i1 i2 b : Addr} (h1 : TI ≠ z) (h2 : TO ≠ z) (h3 : TI ≠ TO) (h4 : TI ≠ i1) (h5 : TI ≠ i2) (h6 : z ≠ i1) (h7 : z ≠ i2) (h8 : TO ≠ i1) (h9 : TO ≠ i2) (h10 : i1 ≠ i2) (hb1 : z ≠ b) (hb2 : TO ≠ b) (hb3 : i1 ≠ b) : ZipSep2 z TI TO i1 i2 [i1] [i2, b] :=
  ⟨h1, h2, h3, h4, by simp, by simp [h6], by simp [h8], h5, by simp, by simp [h7, hb1], by simp [h9, hb2], by simp [h10, hb3], by simp [h10.symm]⟩
theorem turn_SL {P : Program} {w : World} {K : Fr} {elts : List Expr} {kk : Nat} {tpos : Pos} {x : Str} {t : Tok} {b z TI TO i1 i2 : Addr} {st : Bool} (D : ZipSep2 z TI TO i1 i2 [i1] [i2, b]) (hb : b ≠ i2) :
    Turn P w K (.Tuple elts kk tpos) (ItSL K x b st) [z, TI, TO, i1, i2] z (fun i h => (if st = true then IsZipS h z TI TO .none else IsZip h z TI TO .none) ∧ IsPair h TI (.ref i1) (.ref i2) ∧ (∃ u v, IsPair h TO u v) ∧ h.IsStrIter i1 (strIterType x) x t i ∧ h.IsListIter i2 b i) where
  mem := by simp
  obj := fun i h ⟨hz, pI, ⟨u, v, pO⟩, ⟨o1, e1, _, d1⟩, ⟨o2, e2, _, d2⟩⟩ c hc => by
    simp only [List.mem_cons, List.not_mem_nil, or_false] at hc
    rcases hc with q | q | q | q | q
    · rw [q]
      cases st with
      | true => exact ⟨_, hz, fun v q => nomatch q⟩
      | false => exact ⟨_, hz, fun v q => nomatch q⟩
    · rw [q]; exact ⟨_, pI, fun v q => nomatch q⟩
    · rw [q]; exact ⟨_, pO, fun v q => nomatch q⟩
    · rw [q]; exact ⟨o1, e1, fun v q => by rw [d1] at q; cases q⟩
    · rw [q]; exact ⟨o2, e2, fun v q => by rw [d2] at q; cases q⟩
  keep := fun i h h' ⟨hz, pI, ⟨u, v, pO⟩, ⟨o1, e1, c1, d1⟩, w2⟩ k => ⟨by
    cases st with
    | true => exact k z (by simp) _ hz
    | false => exact k z (by simp) _ hz, k TI (by simp) _ pI, ⟨u, v, k TO (by simp) _ pO⟩, ⟨o1, k i1 (by simp) o1 e1, c1, d1⟩, w2.at fun o q => k i2 (by simp) o q⟩
  item := by
    intro X hP hw hK hc i pins s σ H E I hf ⟨hz, pI, ⟨x0, y0, pO⟩, w1, w2⟩ ⟨ys, y, qy, hx, hy⟩
    subst hP hw hK
    obtain ⟨vs, rv2, p2, _⟩ := I.list qy
    obtain ⟨u2, hu2, ru2⟩ := rv2.get hy
    have zl : z < s.heap.objs.size := by
      cases st with
      | true => exact Heap.lt_size hz
      | false => exact Heap.lt_size hz
    have l2 : i < vs.toArray.size := by
      have := (List.getElem?_eq_some_iff.mp hu2).1
      simpa using this
    have hs : (strIterType x = "str_ascii_iterator") ∨ (strIterType x = "str_iterator") := by unfold strIterType; split <;> simp
    have D1 := Draws.text (prog := X.prog) (w := X.w) (A := X.A.in1) (I.ok.hd hc) i1 x t
    have D2 := Draws.list (prog := X.prog) (w := X.w) (A := X.A.in1) (I.ok.hd hc) i2 b hb vs.toArray
    have fin : ∀ (c : Nat) (tk : Tok) (u3 : Value) (h' : Heap) (tk' : Tok), x.cps[i]? = some c → vs.toArray[i]? = some u3 → (if st = true then IsZipS h' z TI TO (rawInt s.heap.objs.size) else IsZip h' z TI TO (rawInt s.heap.objs.size)) → IsPair h' TO (.str ⟨#[c]⟩ tk) u3 → h'.IsStrIter i1 (strIterType x) x t (i + 1) → (h'.IsListIter i2 b (i + 1) ∧ h'.IsList b vs.toArray) → IsPair h' s.heap.objs.size (.str ⟨#[c]⟩ tk) u3 → h'.objs.size = s.heap.objs.size + 1 →
        (∀ c o, c ≠ z → c ≠ TO → c ≠ i1 → c ≠ i2 → s.heap.get? c = some o → h'.get? c = some o) → wpAny (model X.prog X.w) X.A (letOwnedTupleGo (.Tuple elts kk tpos) (.ref z) (.ref s.heap.objs.size)) (fun _ s2 => ∃ x' H', Inv X pins σ H' s2 ∧ RelV x' (.ref s.heap.objs.size) ∧ (ItSL X.K x b st).yld i H x' H' ∧ ((if st = true then IsZipS s2.heap z TI TO .none else IsZip s2.heap z TI TO .none) ∧ IsPair s2.heap TI (.ref i1) (.ref i2) ∧ (∃ u v, IsPair s2.heap TO u v) ∧ s2.heap.IsStrIter i1 (strIterType x) x t (i + 1) ∧ s2.heap.IsListIter i2 b (i + 1)) ∧ ∀ b ∈ [z, TI, TO, i1, i2], H' b = none) E { s with heap := h', toks := tk' } := by
      intro c tk u3 h' tk' hcx hu3 z' TO' w1' w2' hT hsz hk
      have e3 : u3 = u2 := by
        have q : vs[i]? = some u3 := by simpa using hu3
        rw [hu2] at q; cases q; rfl
      subst e3
      have rest : ∀ g : Heap, (if st = true then IsZipS g z TI TO .none else IsZip g z TI TO .none) → Heap.SameBut z h' g → ∃ x' H', Inv X pins σ H' { s with heap := g, toks := tk' } ∧ RelV x' (.ref s.heap.objs.size) ∧ (ItSL X.K x b st).yld i H x' H' ∧ ((if st = true then IsZipS g z TI TO .none else IsZip g z TI TO .none) ∧ IsPair g TI (.ref i1) (.ref i2) ∧ (∃ u v, IsPair g TO u v) ∧ g.IsStrIter i1 (strIterType x) x t (i + 1) ∧ g.IsListIter i2 b (i + 1)) ∧ ∀ b ∈ [z, TI, TO, i1, i2], H' b = none := by
        intro g zg sb
        have hT2 : g.get? s.heap.objs.size = some { cls := .type "tuple", data := .seq #[.str ⟨#[c]⟩ tk, u3] } := (sb.2 _ (Nat.ne_of_gt zl)).trans hT
        have new : ObjOk X.prog X.w (upd H s.heap.objs.size (.tup [.str ⟨#[c]⟩, y])) g s.heap.objs.size (.tup [.str ⟨#[c]⟩, y]) :=
          ⟨by show 2 ≤ sizeLine; decide, [.str ⟨#[c]⟩ tk, u3], .cons ⟨_, rfl⟩ (.cons ru2 .nil), ⟨_, hT2, rfl, _, rfl⟩⟩
        have J : Inv X pins σ (upd H s.heap.objs.size (.tup [.str ⟨#[c]⟩, y])) { s with heap := g, toks := tk' } :=
          I.turnedNew (t' := tk') (ch := [z, TI, TO, i1, i2]) (fun c o hb q => (sb.2 c (fun q' => hb (by simp [q']))).trans (hk c o (fun q' => hb (by simp [q'])) (fun q' => hb (by simp [q'])) (fun q' => hb (by simp [q'])) (fun q' => hb (by simp [q'])) q)) hf (Nat.le_refl _) new
        refine ⟨.ref s.heap.objs.size, _, J, rfl, ⟨_, c, y, rfl, I.hok.fresh (Nat.le_refl _), rfl, hcx, fun l hl => by rw [I.list_inj hl qy]; exact hy⟩, ⟨zg, ?_, ⟨.str ⟨#[c]⟩ tk, u3, ?_⟩, ?_, ?_⟩, fun c' hcm => ?_⟩
        · exact (sb.2 _ D.TIz).trans (hk _ _ D.TIz D.TITO D.TIi1 D.TIi2 pI)
        · exact (sb.2 _ D.TOz).trans TO'
        · obtain ⟨o1, f1, f2, f3⟩ := w1'
          exact ⟨o1, (sb.2 _ D.zi1.symm).trans f1, f2, f3⟩
        · exact w2'.1.at fun o q => (sb.2 _ D.zi2.symm).trans q
        · have hlt : c' < s.heap.objs.size := by
            simp only [List.mem_cons, List.not_mem_nil, or_false] at hcm
            rcases hcm with q | q | q | q | q
            · rw [q]; exact zl
            · rw [q]; exact Heap.lt_size pI
            · rw [q]; exact Heap.lt_size pO
            · rw [q]; obtain ⟨_, f1, _⟩ := w1; exact Heap.lt_size f1
            · rw [q]; obtain ⟨_, f2, _⟩ := w2; exact Heap.lt_size f2
          rw [upd_ne (Nat.ne_of_lt hlt)]
          exact (hf c' hcm).1
      cases st with
      | true => exact go_s (s := { s with heap := h', toks := tk' }) z' fun g zg sb => rest g zg sb
      | false => exact wpAny_letOwnedTupleGo_zip (s := { s with heap := h', toks := tk' }) z' fun g zg sb => rest g zg sb
    cases st with
    | true =>
      refine next_sD D D1 D2 hz pI pO w1 ⟨w2, p2.isList⟩ hx l2 fun x1 y1 h' tk px py z' TO' w1' w2' hT hsz hk => ?_
      obtain ⟨c, u, hcx, rfl⟩ := px
      exact ⟨_, rfl, fin c u y1 h' tk hcx py z' TO' w1' w2' hT hsz hk⟩
    | false =>
      refine wpAny_pyNext_zipD2_item D D1 D2 hz pI pO w1 ⟨w2, p2.isList⟩ hx l2 fun x1 y1 h' tk px py z' TO' w1' w2' hT hsz hk => ?_
      obtain ⟨c, u, hcx, rfl⟩ := px
      exact ⟨_, rfl, fin c u y1 h' tk hcx py z' TO' w1' w2' hT hsz hk⟩
  done := by
    intro X hP hw hK hc i pins s σ H E I hf ⟨hz, pI, ⟨x0, y0, pO⟩, w1, w2⟩ ⟨ys, qy, le1, le2, hend⟩
    subst hP hw hK
    obtain ⟨vs, rv2, p2, _⟩ := I.list qy
    have hlen : vs.toArray.size = ys.length := by rw [List.size_toArray]; exact rv2.length.symm
    have D1 := Draws.text (prog := X.prog) (w := X.w) (A := X.A.in1) (I.ok.hd hc) i1 x t
    have D2 := Draws.list (prog := X.prog) (w := X.w) (A := X.A.in1) (I.ok.hd hc) i2 b hb vs.toArray
    cases st with
    | true =>
      obtain ⟨h1, h2⟩ : i = x.cps.size ∧ i = ys.length := hend
      refine last_sD (I.ok.hd hc) D D1 D2 hz pI pO (by rw [← h1]; exact w1) ⟨by rw [hlen, ← h2]; exact w2, p2.isList⟩ fun h' hk => ?_
      exact ⟨rfl, I.turnedL (t' := s.toks) (ch := [z, TI, TO, i1, i2]) (fun c o hb q => hk c o (fun e => hb (by simp [e])) (fun e => hb (by simp [e])) (fun e => hb (by simp [e])) (fun e => hb (by simp [e])) q) hf⟩
    | false =>
      have hend : i = x.cps.size ∨ i = ys.length := hend
      refine wpAny_pyNext_zipD2_end D D1 D2 hz pI pO w1 ⟨w2, p2.isList⟩ le1 (by rw [hlen]; exact le2) (by rw [hlen]; exact hend) fun h' tk hk => ?_
      exact ⟨rfl, I.turnedL (t' := tk) (ch := [z, TI, TO, i1, i2]) (fun c o hb q => hk c o (fun e => hb (by simp [e])) (fun e => hb (by simp [e])) (fun e => hb (by simp [e])) (fun e => hb (by simp [e])) q) hf⟩
  self := fun A i s Q E st' h => by
    obtain ⟨hz, _⟩ := st'
    cases st with
    | true => exact self_s hz h
    | false => exact wpAny_pyIter_zip hz h
end ZT
end DL
namespace DL
open PySem PySem.Spec PyProof.Rows L2
theorem pairs_min : ∀ ds es : List D, (pairs ds es).length = min ds.length es.length
  | [], es => by simp [pairs]
  | d :: ds, [] => by simp [pairs]
  | d :: ds, e :: es => by
    have := pairs_min ds es
    simp only [pairs, List.length_cons, this]
    omega
theorem signs_len (x : Str) : (signs x).length = x.cps.size := by unfold signs; rw [List.length_map, Array.length_toList]
theorem walks_SL {K : Fg} {F : Hp} {b : Addr} {x : Str} {ws : List V} {es : List D} {st : Bool} (hb : F b = some (.lst ws)) (tb : DtA K F ws es) (hl : st = true → x.cps.size = es.length) : Walks K (ZT.ItSL K.fr x b st) F (pairs (signs x) es) := fun {B F' H σ env} S s i => by
  have q2 : SqL K.fr H b ws := SqL.of (S.fh.lst (s _ _ hb rfl))
  refine ⟨fun d e => ?_, fun hi => ⟨ws, q2, ?_⟩⟩
  · obtain ⟨u, y, e1, e2, rfl⟩ := pairs_get e
    unfold signs at e1
    rw [List.getElem?_map] at e1
    obtain ⟨c, hc, rfl⟩ := Option.map_eq_some_iff.mp e1
    have hc' : x.cps[i]? = some c := by simpa using hc
    obtain ⟨w, h3, h4⟩ := tb.get e2
    obtain ⟨hlt, _⟩ := Array.getElem?_eq_some_iff.mp hc'
    refine ⟨⟨ws, w, q2, hlt, h3⟩, fun z H' y => ?_⟩
    obtain ⟨T, c', y', rfl, nT, rfl, f1, f2⟩ := y
    rw [hc'] at f1; cases f1
    have g2 := f2 ws q2
    rw [h3] at g2; cases g2
    exact ⟨_, S.new nT, S.subNew nT, .tup upd_same (.cons (.str _) (.cons (h4.mono (s.trans (S.subNew nT))) .nil))⟩
  · rw [pairs_min, signs_len] at hi
    have hw := tb.length
    refine ⟨by omega, by omega, ?_⟩
    cases st with
    | true =>
      have := hl rfl
      show i = x.cps.size ∧ i = ws.length
      omega
    | false =>
      show i = x.cps.size ∨ i = ws.length
      omega
namespace ZT
def iZipQ (K : Fr) (st : Bool) (ta : TA) : TI := fun σ H R => ta σ H fun vs H1 => ∃ x b ys, vs = [.str x, .ref b] ∧ SqL K H1 b ys ∧ R (ItSL K x b st) H1
section
variable {X : Cx} {e e2 : Expr} {ta : TA} {p pos tpos : Pos} {elts : List Expr} {kk : Nat}
theorem news5 {pins : List (Addr × Obj)} {σ : L2.St} {H : Hp} {s : Shared} (I : L2.Inv X pins σ H s) : ∀ c ∈ [s.heap.objs.size + 4, s.heap.objs.size + 2, s.heap.objs.size + 3, s.heap.objs.size, s.heap.objs.size + 1], FpOk X pins H c := fun c hcm => by
  have le : s.heap.objs.size ≤ c := by
    simp only [List.mem_cons, List.not_mem_nil, or_false] at hcm
    rcases hcm with rfl | rfl | rfl | rfl | rfl
    · exact Nat.le_add_right _ _
    · exact Nat.le_add_right _ _
    · exact Nat.le_add_right _ _
    · exact Nat.le_refl _
    · exact Nat.le_add_right _ _
  exact I.fpOk le (I.hok.fresh le)
theorem sep_new {n b : Nat} (h : b < n) : ZipSep2 (n + 4) (n + 2) (n + 3) n (n + 1) [n] [n + 1, b] := by
  have f : ∀ {x y : Nat}, x ≠ y → (x : Addr) ≠ (y : Addr) := fun h => h
  exact sep_of (f (by omega)) (f (by omega)) (f (by omega)) (f (by omega)) (f (by omega)) (f (by omega)) (f (by omega)) (f (by omega)) (f (by omega)) (f (by omega)) (f (by omega)) (f (by omega)) (f (by omega))
theorem pi_zipSL (hg : Gl X "zip") (hm : X.mg "zip" = none) (ha : PA X [e, e2] ta) (hs : starEach [e, e2] X.env = (false, eval e X.env) :: starEach [e2] X.env := by rfl) (hpl : (backTo pos (starEach [e2] X.env)).any (·.1) = false := by rfl) :
    PI X (.Tuple elts kk tpos) (.Call (.Name "zip" p) [e, e2] [] pos) (iZipQ X.K false ta) := by
  refine ⟨fun pins s σ H R I h => ?_⟩
  refine Call_ (ld_blt I hg hm PyProof.Rows.boot_zip (PyProof.Rows.callWith_type1 (thn (ha.run pos pins s σ H _ I h) fun us s1 ⟨vs, H1, I1, r1, q1⟩ => ?_) hs hpl))
  obtain ⟨x, b, ys, ex, hq, q⟩ := q1
  subst ex
  cases r1 with
  | cons r rr =>
    cases rr with
    | cons r' rr =>
      cases rr
      obtain ⟨t, rfl⟩ := r
      cases r'
      obtain ⟨its, rv, p1, _⟩ := I1.list hq
      refine zip_begins2 (begins_text x t) (begins_list b its.toArray) trivial p1.isList fun h' hz hTI hTO w1 w2 hsz hk => wpAny_pyIter_zip hz ?_
      have I2 : L2.Inv X pins σ H1 { s1 with heap := h' } := I1.kept (t' := s1.toks) hk
      exact ⟨_, _, _, _, H1, rfl, I2, turn_SL (x := x) (t := t) (st := false) (sep_new p1.lt) (Nat.ne_of_lt (Nat.lt_succ_of_lt p1.lt)), ⟨hz, hTI, ⟨_, _, hTO⟩, ⟨_, w1, rfl, rfl⟩, ⟨_, w2, rfl, rfl⟩⟩, news5 I1, q⟩
theorem pi_zipSLs {j : Nat} {cp kp : Pos} (hg : Gl X "zip") (hm : X.mg "zip" = none) (ha : PA X [e, e2] ta)
    (hs : backTo pos (starEach [e, e2] X.env) = (false, eval e X.env) :: backTo pos (starEach [e2] X.env) := by rfl) (hpl : (backTo pos (starEach [e, e2] X.env)).any (·.1) = false := by rfl) :
    PI X (.Tuple elts kk tpos) (.Call (.Name "zip" p) [e, e2] [⟨some "strict", .Constant (.bool true) j cp, kp⟩] pos) (iZipQ X.K true ta) := by
  refine ⟨fun pins s σ H R I h => ?_⟩
  refine wpAny_Call_Name_kw (ld_blt I hg hm PyProof.Rows.boot_zip ?_)
  refine ZS.callWith_typeK hpl rfl ?_
  rw [hs]
  refine evalArgs_kwB rfl ?_
  have h0 := ha.run pos pins s σ H _ I h
  rw [hs] at h0
  refine thn h0 fun us s1 ⟨vs, H1, I1, r1, x, b, ys, ex, hq, q⟩ => ?_
  show wpAny _ _ (evalAll [_]) _ _ s1
  refine evalAll_cons (wpAny_bind ?_)
  refine thn (pe_bl.run pins s1 σ H1 (fun v' H' => v' = .bl true ∧ H' = H1) I1 ⟨rfl, rfl⟩) fun u0 s2 ⟨v0, H2, I2, r0, e0, e2⟩ => ?_
  subst e0 e2
  cases r0
  refine wpAny_bind (wpAny_standAt (wpAny_pure (evalAll_nil ?_)))
  subst ex
  cases r1 with
  | cons r rr =>
    cases rr with
    | cons r' rr =>
      cases rr
      obtain ⟨t, rfl⟩ := r
      cases r'
      obtain ⟨its, rv, p1, _⟩ := I2.list hq
      refine call_sB (begins_text x t) (begins_list b its.toArray) trivial p1.isList fun h' hz hTI hTO w1 w2 hsz hk => ZS.self_s hz ?_
      have I3 : L2.Inv X pins σ H2 { s2 with heap := h' } := I2.kept (t' := s2.toks) hk
      exact ⟨_, _, _, _, H2, rfl, I3, turn_SL (x := x) (t := t) (st := true) (sep_new p1.lt) (Nat.ne_of_lt (Nat.lt_succ_of_lt p1.lt)), ⟨hz, hTI, ⟨_, _, hTO⟩, ⟨_, w1, rfl, rfl⟩, ⟨_, w2, rfl, rfl⟩⟩, news5 I2, q⟩
end
end ZT
def iZipSL (st : Bool) (f g : Df) : If := fun env => (f env).bind fun r => (g r.2).bind fun t => match r.1, t.1 with
  | .str x, .list es => if st = true → x.cps.size = es.length then some (pairs (signs x) es, t.2) else none
  | _, _ => none
section
variable {X : Cx} {Tb : TbT} {e e2 : Expr} {p pos tpos cp kp : Pos} {j : Nat} {elts : List Expr} {kk : Nat} {f g : Df}
theorem zipSL_le {K : Fg} {st : Bool} {ta : TA} (h : ∀ σ H (Q : List V → Hp → Prop), (∃ B F env e2, Sl K B F H σ env ∧ (∃ d1 e1 d2, f env = some (d1, e1) ∧ g e1 = some (d2, e2) ∧ ∀ v w F' H', Sl K B F' H' σ e2 → Sub F F' → Dt K F' v d1 → Dt K F' w d2 → Q [v, w] H')) → ta σ H Q) : ∀ σ H R, iD K (iZipSL st f g) σ H R → ZT.iZipQ K.fr st ta σ H R := fun σ H R ⟨B, F, env, ds, env', S, ef, k⟩ => by
  obtain ⟨⟨d1, e1⟩, q1, ef⟩ := bd ef
  obtain ⟨⟨d2, e3⟩, q2, ef⟩ := bd ef
  dsimp only at ef
  split at ef
  · split at ef
    · rename_i x es _ hl
      cases ef
      refine h σ H _ ⟨B, F, env, _, S, _, _, _, q1, q2, fun v w F2 H2 S2 s2 h1 h2 => ?_⟩
      have := h1.str_inv
      subst this
      cases h2 with
      | lst a2 t2 => exact ⟨_, _, _, rfl, SqL.of (S2.fh.lst a2), k _ F2 H2 S2 s2 (walks_SL a2 t2 hl)⟩
    · cases ef
  · cases ef
theorem di_zipSL (hg : Gl X "zip") (hm : X.mg "zip" = none) (h1 : PE X e (tD (X.kg Tb) f)) (h2 : PE X e2 (tD (X.kg Tb) g)) (hs : starEach [e, e2] X.env = (false, eval e X.env) :: starEach [e2] X.env := by rfl) (hs2 : starEach [e2] X.env = [(false, eval e2 X.env)] := by rfl)
    (hpl : (backTo pos (starEach [e2] X.env)).any (·.1) = false := by rfl) : PI X (.Tuple elts kk tpos) (.Call (.Name "zip" p) [e, e2] [] pos) (iD (X.kg Tb) (iZipSL false f g)) :=
  PIi (ZT.pi_zipSL hg hm (zip_args h1 h2 hs hs2) hs hpl) (zipSL_le fun σ H Q ⟨B, F, env, e3, S, d1, e1, d2, q1, q2, k⟩ => ⟨B, F, env, d1, e1, S, q1, fun v F1 H1 S1 s1 hd1 => ⟨B, F1, e1, d2, e3, S1, q2, fun w F2 H2 S2 s2 hd2 => k v w F2 H2 S2 (s1.trans s2) (hd1.mono s2) hd2⟩⟩)
theorem di_zipSLs (hg : Gl X "zip") (hm : X.mg "zip" = none) (h1 : PE X e (tD (X.kg Tb) f)) (h2 : PE X e2 (tD (X.kg Tb) g)) (hs : starEach [e, e2] X.env = (false, eval e X.env) :: starEach [e2] X.env := by rfl) (hs2 : starEach [e2] X.env = [(false, eval e2 X.env)] := by rfl)
    (hs3 : backTo pos (starEach [e, e2] X.env) = (false, eval e X.env) :: backTo pos (starEach [e2] X.env) := by rfl) (hpl : (backTo pos (starEach [e, e2] X.env)).any (·.1) = false := by rfl) :
    PI X (.Tuple elts kk tpos) (.Call (.Name "zip" p) [e, e2] [⟨some "strict", .Constant (.bool true) j cp, kp⟩] pos) (iD (X.kg Tb) (iZipSL true f g)) :=
  PIi (ZT.pi_zipSLs hg hm (zip_args h1 h2 hs hs2) hs3 hpl) (zipSL_le fun σ H Q ⟨B, F, env, e3, S, d1, e1, d2, q1, q2, k⟩ => ⟨B, F, env, d1, e1, S, q1, fun v F1 H1 S1 s1 hd1 => ⟨B, F1, e1, d2, e3, S1, q2, fun w F2 H2 S2 s2 hd2 => k v w F2 H2 S2 (s1.trans s2) (hd1.mono s2) hd2⟩⟩)
end
end DL
namespace DL
open PySem PySem.Spec PyProof.Rows L2
theorem okH_of {P : Program} {w : World} {K : Fr} {mg : Str → Option Value} {base : Heap} {CX : CXT} {x qual : Str} {params : Arguments} {body : List Stmt} {scope : Scope} {dvs : List V} {kws : List (Str × V)} {f : Addr} {fd : FuncData} {N ps : List Str} {k : Nat} {sp : Sp}
    (F : FunD K x qual params body scope dvs kws f fd) (S : FnScope N ps scope) (len : ∀ vs H Q E, sp vs H Q E → vs.length = ps.length)
    (hb : ∀ (cdv : Value) (A : Around) (outer : List Env) (s : Shared) (H : Hp) (vs : List V) (Q : VK) (E : XK) (p : Addr × Obj), sp vs H Q E → ∃ t, PSs (L2H.cxH CX P w K mg base N qual scope f cdv A outer s H E p) body t ∧ t { nx := fun _ H' => Q .non H', rt := Q } (L2.start N vs) H) : L2H.FnH P w K mg base CX (k + 1) f fd ps sp := by
  obtain ⟨oc, od, dV, kV, doc, pm, an, cdv, ct, osl, rfl, lk, hcd, _, _⟩ := F.ex
  exact L2H.fn_ofH lk hcd S len fun A outer s H vs Q E p _ _ h => hb cdv A outer s H vs Q E p h
theorem ok_initH {P : Program} {w : World} {K : Fr} {mg : Str → Option Value} {base : Heap} {CX : CXT} {qual b fld par txt : Str} {pa : Arguments} {sc : Scope} {f C B : Addr} {fd : FuncData} {j : Nat} {p1 p2 p3 p4 p5 p6 p7 p8 p9 p10 : Pos} {dvs : List V} {kws : List (Str × V)} {pl : Env → Sem Bool}
    (F : FunD K "__init__" qual pa [.Expr (.Call (.Attribute (.Name b p1) "__init__" p2) [.Name "self" p3, .Constant (.str txt) j p4] [] p5) p6, .Assign [.Attribute (.Name "self" p7) fld p8] (.Name par p9) p10] sc dvs kws f fd)
    (S : FnScope ["self", par] ["self", par] sc) (hs : Vis sc "self") (hp : Vis sc par) (hb : sc.names.lookup b = some .globalImplicit) (hm : mg b = some (.ref B)) (hB : BaseC K B) (T : OexC K C) (hno : PySem.W.findIn K (.ref C) fld = some none)
    (hc : ∀ env : Env, eval (.Call (.Attribute (.Name b p1) "__init__" p2) [.Name "self" p3, .Constant (.str txt) j p4] [] p5) env = (do
      let ov ← eval (.Name b p1) env
      standAt p2.atName
      let (f, first) ← holding [ov] (getMethod ov "__init__" (pl env))
      callWith p5 f first (backTo p5 (starEach [.Name "self" p3, .Constant (.str txt) j p4] env)) (backToKw p5 (keywordEach [] env))) := by intro _; rfl)
    (hd : (b == ("__debug__" : Str)) = false := by decide) (hdp : (par == ("__debug__" : Str)) = false := by decide) (hcp : (par == ("__classdict__" : Str)) = false := by decide) : L2H.FnH P w K mg base CX 1 f fd ["self", par] (spI C fld) := by
  refine okH_of F S (fun vs H Q E h => ?_) fun cdv A outer s H vs Q E p h => ?_
  · obtain ⟨a, v, rfl, _⟩ := h; rfl
  · obtain ⟨a, v, rfl, ha, q⟩ := h
    refine ⟨_, pss_cons (ps_expr (pe_oinit (C0 := B) ?g hm hB.ga hB.rd hB.init (pa_cons (pe_var (i := 0) rfl hs) (pa_cons pe_str pa_nil)) (hc _) hd)) (pss_one (ps_ost (pe_var (i := 0) rfl hs) (pe_var (i := 1) rfl hp hdp hcp) rfl)), ?r⟩
    case g => exact hb
    case r =>
      refine ⟨_, rfl, ⟨a, C, [.str txt], rfl, by simp, T, ha, ⟨_, rfl, ⟨_, rfl, a, C, rfl, T, hno, .inl ⟨ha, fun dx h1 h2 => q dx h1 h2⟩⟩⟩⟩⟩
/-- a class as GotE tells it, its __init__ in a handler too -/
structure GotEH (P : Program) (w : World) (K : Fr) (mg : Str → Option Value) (base : Heap) (k : Nat) (c fld : Str) : Prop where
  ex : ∃ (C fI : Addr) (fd : FuncData) (ps : List Str), mg c = some (.ref C) ∧ OexC K C ∧ PySem.W.findIn K (.ref C) "__init__" = some (some (.ref fI)) ∧ PySem.W.typeIn K (.ref fI) = some (.type "function") ∧ L2H.FnH P w K mg base CX0 k fI fd ps (spI C fld) ∧ Binds K fd ps []
def wG (K : Fr) (c : Value) (i : Nat) (KR : Value → Prop) (t : L2.St → Hp → XK → Prop) (Wo : WX) : WX := fun cls d σ H => ∃ b, PySem.W.exmOne K cls c = some b ∧ (b = true → KR cls ∧ ∀ a : Addr, t (σ.set i (some (.ref a))) H fun cls' d' H' => Wo cls' d' (σ.set i none) H') ∧ (b = false → Wo cls d σ H)
section
variable {X : Cx} {body : List Stmt} {x n : Str} {c : Value} {C : Addr} {i : Nat} {e : Expr} {np cp rp hp pos : Pos} {tb : WX → TS} {Wo : WX} {t : L2.St → Hp → XK → Prop}
theorem ps_tryG (hst : X.stack = X.env :: X.outer) (hfr : X.env.frame = some X.env.locals) (hex : X.ex = []) (nd : X.N.Nodup) (hi : X.N[i]? = some n) (hl : X.env.kindOf n = some .local) (hdb : (n == ("__debug__" : Str)) = false) (hc : Names X x c)
    (hpa : ∀ hd : Option Value, PassesOwnAt (model X.prog X.w) (X.A.mark hd) X.A X.env X.xe) (tk : Takes X Wo)
    (hb : ∀ (W : WX) (pn : List (Addr × Obj)) (xe : Value → Shared → Prop), L2N.Takes (X.tr pn xe) W → PassesOwn (model X.prog X.w) X.A X.env xe → PSs (X.tr pn xe) body (tb W))
    (he : ∀ (a : Addr) (pn : List (Addr × Obj)) (xe : Value → Shared → Prop), L2H.HotC { X with A := X.A.mark (some (.ref a)), calm := false, pn := pn, xe := xe } → L2H.PMk5 { X with A := X.A.mark (some (.ref a)), calm := false, pn := pn, xe := xe } e t) :
    PS X (.Try body [.ExceptHandler (some (.Name x np)) (some n) [.Raise (some e) (some (.Name n cp)) rp] hp] [] [] pos) (fun D σ H => tb (wG X.K c i (Raises X) t Wo) D σ H) := by
  refine ⟨fun pins s σ H D I h => ?_⟩
  have ok := I.ok
  have hfA : X.A.frames = some (X.env :: X.outer) := by
    rw [ok.frames, hst]
  refine wpAny_Try_except ?_
  refine wpAny_mono ((hb (wG X.K c i (Raises X) t Wo) (X.pn ++ pins) _ (fun u s1 xx => ?_) PassesOwn.looking).run [] s σ H D (I.toTry _) h) (fun fl s1 q => ?_) (fun _ _ z => z)
  · obtain ⟨a, gr, sJ, pz, τ, G, cl, dd, e0, J0, inG, ups, sk, nG, eos, bare, b, eb, yes, no⟩ := xx
    subst e0
    have J : L2.Inv X pins τ G sJ := J0.ofTry ok
    rw [hst] at sk
    show wpAny (model X.prog X.w) X.A (noteFrame (.ref a) X.env) _ _ _
    refine L2N.Sky.land L2N.Zn.steady hfA hfr sk fun hp3 fly3 up3 => ?_
    have J3 : L2.Inv X pins τ G { s1 with heap := hp3 } := J.landed inG fly3.1 (ups.trans up3) eos bare
    obtain ⟨ob3, us3, at3, zc3, dat3⟩ := fly3.there
    have noFr : ∀ {h : Heap} {ob : Obj} {us : Array Value}, h.FunFrames gr (X.env :: X.outer) → h.get? a = some ob → ob.data = .fields us → a ∉ frs (X.env :: X.outer) := fun {h ob us} f q1 q2 hm => by
      obtain ⟨_, o', e', nf⟩ := f.mem hm
      rw [q1] at e'; cases e'
      exact nf _ q2
    have nfr := noFr fly3.2.2.1 at3 dat3
    have nLoc : a ≠ X.env.locals := fun z => nfr (by
      refine List.mem_filterMap.mpr ⟨X.env, List.mem_cons_self, ?_⟩
      rw [hfr, z])
    have nFs : a ∉ X.fs := fun hm => by
      obtain ⟨v, hv, q⟩ := List.mem_filterMap.mp hm
      exact nfr (List.mem_filterMap.mpr ⟨v, List.mem_cons_of_mem _ hv, q⟩)
    have S3 := inv_suite J3 a
    refine wpAny_handleBy_cons (codeAny_handlers_test ?_) (fun q => nomatch q)
    have typ : PySem.W.Looks (model X.prog X.w) hp3 (typeOf (.ref a)) cl := fun A Q E s k q => wpAny_typeOf_ref (k _ _ at3) (by
      rw [zc3.1]
      exact q)
    have nam : ∀ {Q : Value → Shared → Prop} {E : Value → Shared → Prop}, Q c { s1 with heap := hp3 } → wpAny (model X.prog X.w) (X.A.mark (some (.ref a))) (eval (.Name x np) X.env) Q E { s1 with heap := hp3 } := fun {Q E} q => by
      obtain ⟨g1, g2, g3⟩ := hc
      rcases g3 with g3 | ⟨g3, g4, g5⟩
      · exact ld_glob (X := X.suite a (X.pn ++ pins)) S3 g1 g3 q g2
      · exact ld_blt (X := X.suite a (X.pn ++ pins)) S3 g1 g3 g4 q g5 g2
    refine nam ((PySem.W.exm_one (M := model X.prog X.w) J3.kIn typ eb).here ?_)
    cases b with
    | false =>
      refine wpAny_handleBy_nil ?_
      obtain ⟨_, _, _, oz, uz, tz, _, _, a1, a2, a3, a4, _⟩ := id fly3
      unfold PySem.passOn
      refine wpAny_bind (wpAny_field a1 a3 a4 ?_)
      rw [if_neg (by simp : ¬ ((Value.ref tz == Value.none) = true))]
      have fin : wpAny (model X.prog X.w) X.A (setFlight (.ref a) X.env.frame) (fun _ s4 => wpAny (model X.prog X.w) X.A (throw (.ref a) : Sem Flow) (SP X pins D) X.xe s4) X.xe { s1 with heap := hp3 } := by
        rw [hfr]
        refine HandSPX.setFlight_upZ (L2H.flyingZ_imp (fun o z => z.zc) fly3) fun hp4 hz4 up4 => ?_
        refine wpAny_throw (tk _ _ ⟨a, gr, sJ, pins, τ, G, cl, dd, rfl, J, inG, (ups.trans up3).trans up4, ?_, nG, eos, bare, no rfl⟩)
        rw [hst]
        exact .inr (.inr hz4)
      first
        | exact wpAny_bind (wpAny_pure (wpAny_bind fin))
        | exact wpAny_bind fin
    | true =>
      obtain ⟨rc, wo⟩ := yes rfl
      refine codeAny_handlers_suite_as (HandSPX.lands_againZ fly3 fun hp4 fly4 up4 => ?_)
      have J4 : L2.Inv X pins τ G { s1 with heap := hp4 } := J.landed inG fly4.1 ((ups.trans up3).trans up4) eos bare
      obtain ⟨ob4, us4, at4, zc4, dat4⟩ := fly4.there
      have S4 := J4.suite at4 dat4 nG nLoc nFs
      refine store_ok (X := X.suite a ((a, ob4) :: (X.pn ++ pins))) (v := .ref a) S4 nd hi (.inl hl) rfl (fun s5 S5 => ?_) (.inr hl)
      let R : Value → Shared → Prop := notedBy (model X.prog X.w) (X.A.mark (some (.ref a))) X.env (cameBackBy (model X.prog X.w) X.A X.env X.xe)
      let xe6 : Value → Shared → Prop := fun y s6 => wpAny (model X.prog X.w) (X.A.mark (some (.ref a))) (noteFrame y X.env) (fun _ s7 =>
        wpAny (model X.prog X.w) (X.A.mark (some (.ref a))) (do bindName X.env n .none; unbindBehindTheSuite X.env n hp) (fun _ s8 => wpAny (model X.prog X.w) (X.A.mark (some (.ref a))) (passOn "try.except-as" y X.env : Sem Flow) (fun _ _ => False) R s8)
          (fun y' s8 => wpAny (model X.prog X.w) (X.A.mark (some (.ref a))) (setFlight y none) (fun _ s9 => R y' s9) R s8) s7) R s6
      let Y : Cx := { X with A := X.A.mark (some (.ref a)), calm := false, pn := (a, ob4) :: (X.pn ++ pins), xe := xe6 }
      have S6 : L2.Inv Y [] (τ.set i (some (.ref a))) G s5 := (S5.wish xe6 :)
      have tkY : Takes Y (fun cls d σ H => Wo cls d (σ.set i none) H) := fun y s6 z => by
        obtain ⟨a2, B2, sI2, pn2, σ2, H2, cls2, d2, e2, I2, nb2, up2, sky2, na2, os2, ag2, w2⟩ := z
        have I3 : L2.Inv (L2H.suiteX X a ((a, ob4) :: (X.pn ++ pins))) pn2 σ2 H2 sI2 := L2.Inv.unwish (X := L2H.suiteX X a ((a, ob4) :: (X.pn ++ pins))) (E := xe6) I2
        exact flies_on hst hfr hfA nd hi hl tk ⟨a2, B2, sI2, σ2, H2, cls2, d2, e2, L2H.unsuiteX I3 ok, nb2, up2, sky2, na2, os2, ag2, w2⟩ (fun y' s' q => hpa (some (.ref a)) y' s' q)
      have rs := pss_one (ps_raiseF (X := Y) (W := fun cls d σ H => Wo cls d (σ.set i none) H) (q := (a, ob4)) (cpos := cp) (pos := rp) rfl List.mem_cons_self dat4 (zc4.2.2 _ dat4) (by rw [zc4.1]; exact rc) tkY (he a _ xe6 ⟨(a, ob4), ⟨rfl, us4, dat4, zc4.2.2 _ dat4⟩, List.mem_cons_self⟩) hi hl hdb)
      have hσ : (τ.set i (some (V.ref a)))[i]? = some (some (.ref a)) := by
        have hi' : i < τ.length := by
          rw [J.len]
          exact (List.getElem?_eq_some_iff.mp hi).1
        rw [List.getElem?_set_self hi']
      refine wpAny_mono (rs.run [] s5 _ _ { nx := fun _ _ => False, rt := fun _ _ => False, bk := fun _ _ => False, ct := fun _ _ => False } S6 ⟨hσ, ?_⟩) (fun fl s6 q => ?_) (fun _ _ z => z)
      · have wa := wo a
        simpa only [List.set_set] using wa
      · cases fl with
        | next => obtain ⟨_, _, _, z⟩ := q; exact z.elim
        | brk => obtain ⟨_, _, _, z⟩ := q; exact z.elim
        | cont => obtain ⟨_, _, _, z⟩ := q; exact z.elim
        | ret u => obtain ⟨_, _, _, _, _, z⟩ := q; exact z.elim
  · cases fl with
    | next =>
      obtain ⟨τ, G, J, z⟩ := q
      exact wpAny_execs_nil ⟨τ, G, J.ofTry ok, z⟩
    | brk =>
      obtain ⟨τ, G, J, z⟩ := q
      exact ⟨τ, G, J.ofTry ok, z⟩
    | cont =>
      obtain ⟨τ, G, J, z⟩ := q
      exact ⟨τ, G, J.ofTry ok, z⟩
    | ret u =>
      obtain ⟨v, τ, G, J, r, z⟩ := q
      exact ⟨v, τ, G, J.ofTry ok, r, z⟩
end
def sTryG (b : Sf) (m : Mt) (i : Nat) (y fld : Str) (f : Df) : Sf := fun env => (b env).bind fun r => match r with
  | .xx x e => (m x.c).bind fun hit => if hit = true then (unS i e).bind fun e1 => (f e1).bind fun r => (unS i r.2).bind fun e3 => some (.xx ⟨y, some (fld, r.1)⟩ e3) else some (.xx x e)
  | r => some r
/-- an empty name may hold what it likes -/
theorem Sl.junk1 {K : Fg} {B : Bs} {F H : Hp} {σ : L2.St} {env : En} (S : Sl K B F H σ env) {i : Nat} (h : env[i]? = some .un) (v : Option V) : Sl K B F H (σ.set i v) env := by
  have ne : ∀ {j : Nat} {y : Sv}, env[j]? = some y → y ≠ .un → j ≠ i := fun {j y} a b z => by
    rw [z, h] at a; cases a; exact b rfl
  have ow : ∀ {j : Nat} {d : D}, IsOw env j d → j ≠ i := fun {j d} o => by
    rcases o with o | o <;> exact ne o (fun z => nomatch z)
  refine ⟨S.fh, by simpa using S.len, fun j x q => ?_, fun j x q => ?_, fun j k x y p a b c d => ?_, fun q hq => ?_, S.f0, S.nw, S.kp, S.lc, fun q hq => ?_, S.lk, fun j s y q => ?_, S.mr, S.gv, S.kt, S.tb⟩
  · rw [sset_other (ne q (fun z => nomatch z))]; exact S.fz j x q
  · rw [sset_other (ow q)]; exact S.own j x q
  · rw [sset_other (ow a)] at c
    rw [sset_other (ow b)] at d
    exact S.ap j k x y p a b c d
  · obtain ⟨⟨y, hy⟩, h2⟩ := S.pm q hq
    have : q.1 ≠ i := by
      rcases id hy with w | ⟨_, _, _, w⟩ <;> exact ne w (fun z => nomatch z)
    rw [sset_other this]
    exact ⟨⟨y, hy⟩, h2⟩
  · obtain ⟨g1, g2, g3, g4⟩ := S.hx q hq
    exact ⟨g1, g2, g3, fun j x o => by rw [sset_other (ow o)]; exact g4 j x o⟩
  · have : j ≠ i := by rcases q with q | q <;> exact ne q (fun z => nomatch z)
    rw [sset_other this]; exact S.tr j s y q
section
variable {X : Cx} {Tb : TbT} {wh : Wh} {k : Nat}
theorem dS_tryG {b : Sf} {m : Mt} {i j : Nat} {x y n fld : Str} {f : Df} {e : Expr} {c : Value} {body : List Stmt} {np p1 p3 cp rp hp pos : Pos} (hst : X.stack = X.env :: X.outer) (hfr : X.env.frame = some X.env.locals) (hex : X.ex = []) (nd : X.N.Nodup) (hi : X.N[i]? = some n) (hl : X.env.kindOf n = some .local) (hdb : (n == ("__debug__" : Str)) = false)
    (hc : Names X x c) (hm : MtOk X m c) (hT : ∀ k C, m k = some true → X.mg k = some (.ref C) → Raises X (.ref C)) (hpa : ∀ hd : Option Value, PassesOwnAt (model X.prog X.w) (X.A.mark hd) X.A X.env X.xe) (tk : Takes X wh.W) (G : GotEH X.prog X.w X.K X.mg X.base k y fld) (hr : Room j X.A) (hg : Gl X y) (hyd : (y == ("__debug__" : Str)) = false)
    (hf : ∀ (a : Addr) (pn : List (Addr × Obj)) (xe : Value → Shared → Prop), PE { X with A := X.A.mark (some (.ref a)), calm := false, pn := pn, xe := xe } e (tD (X.kg Tb) f))
    (hb : ∀ (W : WX) (pn : List (Addr × Obj)) (xe : Value → Shared → Prop), L2N.Takes (X.tr pn xe) W → PassesOwn (model X.prog X.w) X.A X.env xe → PSs (X.tr pn xe) body (tS (X.kg Tb) ⟨W⟩ b))
    (hj : k + 1 ≤ j := by decide) (hse : starEach [e] X.env = (false, eval e X.env) :: starEach [] X.env := by rfl) :
    PS X (.Try body [.ExceptHandler (some (.Name x np)) (some n) [.Raise (some (.Call (.Name y p1) [e] [] p3)) (some (.Name n cp)) rp] hp] [] [] pos) (tS (X.kg Tb) wh (sTryG b m i y fld f)) := by
  obtain ⟨C, fI, fd, ps, my, T, iC, tI, F1, bn⟩ := G.ex
  refine PSi (ps_tryG hst hfr hex nd hi hl hdb hc hpa tk hb fun a pn xe hot => L2H.pmk5_oexH T iC tI F1 (L2H.roomH_mark (hr.mono hj) _) hot bn pass0 hg my (pa_cons (hf a pn xe) pa_nil hse) hyd hse rfl) fun E σ H ⟨B, F, env, r, S, ef, kk⟩ => ?_
  obtain ⟨r0, q0, ef⟩ := bd ef
  refine ⟨B, F, env, r0, S, q0, ?_⟩
  cases r0 with
  | xx x e =>
    intro cls dd σ' F' H' S' s' hx
    obtain ⟨b0, eb, ef⟩ := bd ef
    obtain ⟨⟨C0, mc, rfl⟩, _⟩ := id hx
    refine ⟨b0, hm _ _ _ eb mc, fun hb => ?_, fun hb => ?_⟩
    · subst hb
      rw [if_pos rfl] at ef
      obtain ⟨e1, q1, ef⟩ := bd ef
      obtain ⟨⟨d, e2⟩, q2, ef⟩ := bd ef
      obtain ⟨e3, q3, ef⟩ := bd ef
      cases ef
      refine ⟨hT _ _ eb mc, fun a => ?_⟩
      have S1 := put_un S' q1
      have u1 : e1[i]? = some .un := by
        obtain ⟨h1, h2, rfl⟩ := put_inv q1
        exact List.getElem?_set_self h1
      have S2 := S1.junk1 u1 (some (.ref a))
      rw [List.set_set] at S2
      refine ⟨B, F', e1, d, e2, S2, q2, fun v F1 H1 S3 s3 hd => ?_⟩
      refine ⟨by simp, fun a' ha => ⟨a', v, rfl, upd_same, fun dx hdx hne => ⟨rfl, dx, [(fld, v)], upd_same, by rw [upd_ne hne]; exact upd_same, ?_, ?_⟩⟩⟩
      · rw [upd_ne hne] at hdx; exact hdx
      · have h1 : H1 dx = none := by rw [upd_ne hne] at hdx; exact hdx
        rw [raised_heap ha hne]
        have S4 := put_un S3 q3
        rw [List.set_set] at S4
        exact kk (.ref C) (some dx) _ F1 _ (S4.laid h1) (s'.trans s3) ⟨⟨C, my, rfl⟩, dx, v, rfl, S4.fresh h1, S4.neX h1, S4.fh.none h1, upd_same, hd⟩
    · subst hb
      rw [if_neg Bool.false_ne_true] at ef
      cases ef
      exact kk _ dd σ' F' H' S' s' hx
  | nx e => cases ef; exact kk
  | bk e => cases ef; exact kk
  | ct e => cases ef; exact kk
  | rt d e => cases ef; exact kk
  | rn d e => cases ef; exact kk
  | rm s d e => cases ef; exact kk
end
end DL
namespace DL
open PySem PySem.Spec PyProof.Rows L2 SkE
def rStrA : List V → Hp → VK → Prop := fun xs H Q => (∃ i, xs = [.int i] ∧ i.natAbs.log2 < 1920 ∧ Q (.str (toString i)) H) ∨ ∃ a, xs = [.str a] ∧ Q (.str a) H
theorem call_str_any {X : Cx} : CallR X (.type "str") rStrA := CallR.or call_str_int call_str_str
def gStrS : List D → Option D
  | [.int i] => if i.natAbs.log2 < 1920 then some (.str (toString i)) else none
  | [.str a] => some (.str a)
  | _ => none
theorem ok_strS {K : Fg} : OkA K rStrA gStrS := fun {B F H σ env xs ds d Q} S h e k => by
  unfold gStrS at e
  split at e
  · rename_i i
    split at e
    · rename_i hh
      cases e
      obtain ⟨v, rfl, h0⟩ := h.one
      rw [h0.int_inv]
      exact .inl ⟨i, rfl, hh, k _ F H S (Sub.refl _) (.str _)⟩
    · cases e
  · cases e
    obtain ⟨v, rfl, h0⟩ := h.one
    rw [h0.str_inv]
    exact .inr ⟨_, rfl, k _ F H S (Sub.refl _) (.str _)⟩
  · cases e
end DL
namespace K58
open PySem L2 DL
def top (i : Nat) : Stmt := PySem.Challenge.pw_linkheralds_k58_texts_written_and_read.main.body.getD i (.Pass ⟨0, 0, 0, 0⟩)
def kv_FORMS : List (Str × Str) := [("carry", "n"), ("lose", "n"), ("double", "n"), ("beat", ""), ("calm", "n"), ("fall", "n"), ("rise", "n"), ("road", "nno"), ("price", "nnn"), ("leave", "n")]
structure Zs (K : PySem.W.Frag) (mg : Str → Option Value) : Prop where
  z_all : mg "all" = none
  z_bool : mg "bool" = none
  z_enumerate : mg "enumerate" = none
  z_int : mg "int" = none
  z_isinstance : mg "isinstance" = none
  z_len : mg "len" = none
  z_list : mg "list" = none
  z_max : mg "max" = none
  z_min : mg "min" = none
  z_range : mg "range" = none
  z_repr : mg "repr" = none
  z_str : mg "str" = none
  z_tuple : mg "tuple" = none
  z_zip : mg "zip" = none
  c_MOST_AGE : ∃ t : Tok, mg "MOST_AGE" = some (.int 40 t)
  c_MOST_FIGURES : ∃ t : Tok, mg "MOST_FIGURES" = some (.int 9 t)
  c_MOST_HOUSES : ∃ t : Tok, mg "MOST_HOUSES" = some (.int 8 t)
  c_MOST_PRICE : ∃ t : Tok, mg "MOST_PRICE" = some (.int 99 t)
  c_MOST_TIES : ∃ t : Tok, mg "MOST_TIES" = some (.int 20 t)
  s_FIGURES : ∃ t : Tok, mg "FIGURES" = some (.str "0123456789" t)
  m_NoWeb : mg "NoWeb" = some (.ref (He.ga K "NoWeb"))
  x_NoWeb_NoWeb : PySem.W.exmOne K (.ref (He.ga K "NoWeb")) (.ref (He.ga K "NoWeb")) = some true
  f_NoWeb_number : XfC K (He.ga K "NoWeb") ∧ PySem.W.findIn K (.ref (He.ga K "NoWeb")) "number" = some none
section
variable {P : Program} {w : World} {K : PySem.W.Frag} {mg : Str → Option Value} {base : Heap} {Tb : TbT}
def d_is_whole : Sf := (sRet (eAnd (op1 (gIsi "int") (.vr 0)) (eNot (op1 (gIsi "bool") (.vr 0)))))
def g_is_whole : List D → Option (D × List D) := gOf 1 [false]  d_is_whole
theorem sc_is_whole : FnScope ["thing"] ["thing"] (defScope (top 8)) := ⟨rfl, rfl, rfl, by decide +kernel, rfl, by decide +kernel, by decide +kernel⟩
theorem ok_is_whole {f : Addr} {fd : FuncData} (F : FnP K "is_whole" (top 8) f fd) (Z : Zs K mg)  : FnOk P w K mg base CX0 1 f fd ["thing"] (spD ⟨K, mg, Tb⟩ [false] .fz g_is_whole) := by
  refine okP F sc_is_whole (spD_len rfl) (fun cdv A outer s H vs Q E hr h => ⟨tS ⟨K, mg, Tb⟩ wh0 d_is_whole, ?_, body_of (N := ["thing"]) h⟩)
  exact (ds_one (dS_ret (de_and (de_isi (by decide +kernel) rfl Z.z_isinstance (do_vr 0) rfl Z.z_int (by decide +kernel)) (de_one (de_not (de_isi (by decide +kernel) rfl Z.z_isinstance (do_vr 0) rfl Z.z_bool (by decide +kernel)))))))
def d_is_house : Sf := (sRet (eAnd (eCall [false] g_is_whole [(.ex (eVar 1))]) (eChain gLe gLt (.ex (eC (.int 0))) (.vr 1) (.vr 0))))
def g_is_house : List D → Option (D × List D) := gOf 2 [false, false]  d_is_house
theorem sc_is_house : FnScope ["many", "thing"] ["many", "thing"] (defScope (top 9)) := ⟨rfl, rfl, rfl, by decide +kernel, rfl, by decide +kernel, by decide +kernel⟩
theorem ok_is_house {f : Addr} {fd : FuncData} (F : FnP K "is_house" (top 9) f fd) (Z : Zs K mg) (G_is_whole : Got P w K mg base 1 "is_whole" ["thing"] (spD ⟨K, mg, Tb⟩ [false] .fz g_is_whole)) : FnOk P w K mg base CX0 2 f fd ["many", "thing"] (spD ⟨K, mg, Tb⟩ [false, false] .fz g_is_house) := by
  refine okP F sc_is_house (spD_len rfl) (fun cdv A outer s H vs Q E hr h => ⟨tS ⟨K, mg, Tb⟩ wh0 d_is_house, ?_, body_of (N := ["many", "thing"]) h⟩)
  exact (ds_one (dS_ret (de_and (de_callG G_is_whole hr rfl (da_cons (do_ex (de_var 1)) da_nil)) (de_one (de_chain op_le ok_le op_lt ok_lt (do_ex de_int) (do_vr 1) (do_vr 0))))))
def d_is_price : Sf := (sRet (eAnd (eCall [false] g_is_whole [(.ex (eVar 0))]) (eChain gLe gLe (.ex (eC (.int 1))) (.vr 0) (.ex (eC (.int 99))))))
def g_is_price : List D → Option (D × List D) := gOf 1 [false]  d_is_price
theorem sc_is_price : FnScope ["thing"] ["thing"] (defScope (top 10)) := ⟨rfl, rfl, rfl, by decide +kernel, rfl, by decide +kernel, by decide +kernel⟩
theorem ok_is_price {f : Addr} {fd : FuncData} (F : FnP K "is_price" (top 10) f fd) (Z : Zs K mg) (G_is_whole : Got P w K mg base 1 "is_whole" ["thing"] (spD ⟨K, mg, Tb⟩ [false] .fz g_is_whole)) : FnOk P w K mg base CX0 2 f fd ["thing"] (spD ⟨K, mg, Tb⟩ [false] .fz g_is_price) := by
  refine okP F sc_is_price (spD_len rfl) (fun cdv A outer s H vs Q E hr h => ⟨tS ⟨K, mg, Tb⟩ wh0 d_is_price, ?_, body_of (N := ["thing"]) h⟩)
  exact (ds_one (dS_ret (de_and (de_callG G_is_whole hr rfl (da_cons (do_ex (de_var 0)) da_nil)) (de_one (de_chain op_le ok_le op_le ok_le (do_ex de_int) (do_vr 0) (do_ex (de_globInt rfl Z.c_MOST_PRICE.choose_spec)))))))
def d_is_tie : Sf := (sq (sIf (bOr (bNot (bD (op1 (gIsi "tuple") (.vr 1)))) (bD (op2 gNe (.ex (opA gLen [(.vr 1)])) (.ex (eC (.int 4)))))) (sRet (eC (.bool false))) sNx) (sq (sUnp (tgTup (tgsCons (tgName 2) (tgsCons (tgName 3) (tgsCons (tgName 4) (tgsCons (tgName 5) tgsNil))))) (eVar 1)) (sq (sIf (bOr (bNot (bD (eCall [false, false] g_is_house [(.ex (eVar 0)), (.ex (eVar 2))]))) (bOr (bNot (bD (eCall [false, false] g_is_house [(.ex (eVar 0)), (.ex (eVar 3))]))) (bD (op2 gGe (.vr 2) (.vr 3))))) (sRet (eC (.bool false))) sNx) (sRet (eAnd (eCall [false] g_is_price [(.ex (eVar 4))]) (eCall [false] g_is_price [(.ex (eVar 5))]))))))
def g_is_tie : List D → Option (D × List D) := gOf 6 [false, false]  d_is_tie
theorem sc_is_tie : FnScope ["many", "thing", "one", "other", "there", "back"] ["many", "thing"] (defScope (top 11)) := ⟨rfl, rfl, rfl, by decide +kernel, rfl, by decide +kernel, by decide +kernel⟩
theorem ok_is_tie {f : Addr} {fd : FuncData} (F : FnP K "is_tie" (top 11) f fd) (Z : Zs K mg) (G_is_price : Got P w K mg base 2 "is_price" ["thing"] (spD ⟨K, mg, Tb⟩ [false] .fz g_is_price)) (G_is_house : Got P w K mg base 2 "is_house" ["many", "thing"] (spD ⟨K, mg, Tb⟩ [false, false] .fz g_is_house)) : FnOk P w K mg base CX0 3 f fd ["many", "thing"] (spD ⟨K, mg, Tb⟩ [false, false] .fz g_is_tie) := by
  refine okP F sc_is_tie (spD_len rfl) (fun cdv A outer s H vs Q E hr h => ⟨tS ⟨K, mg, Tb⟩ wh0 d_is_tie, ?_, body_of (N := ["many", "thing", "one", "other", "there", "back"]) h⟩)
  exact (ds_cons (dS_if (PW.pt (dw_or (dt_not (dt_val (de_isi (by decide +kernel) rfl Z.z_isinstance (do_vr 1) rfl Z.z_tuple (by decide +kernel)))) (dw_or1 (dt_cmp (op_nes hr.units) ok_ne (do_ex (de_callB call_len1 ok_len rfl Z.z_len (by decide +kernel) (da_cons (do_vr 1) da_nil))) (do_ex de_int) (nomark _))))) (ds_one (dS_ret de_bool)) ds_nil)
      (ds_cons (dS_unp (ts := [2, 3, 4, 5]) (de_var 1) (dg_tup rfl (dgs_cons (dg_name 2 sc_is_tie.nd) (dgs_cons (dg_name 3 sc_is_tie.nd) (dgs_cons (dg_name 4 sc_is_tie.nd) (dgs_cons (dg_name 5 sc_is_tie.nd) dgs_nil)))) (takes_cons (takes_cons (takes_cons (takes_cons takes_nil))))))
      (ds_cons (dS_if (PW.pt (dw_or (dt_not (dt_val (de_callG G_is_house hr rfl (da_cons (do_ex (de_var 0)) (da_cons (do_ex (de_var 2)) da_nil))))) (dw_or (dt_not (dt_val (de_callG G_is_house hr rfl (da_cons (do_ex (de_var 0)) (da_cons (do_ex (de_var 3)) da_nil))))) (dw_or1 (dt_cmp op_ge ok_ge (do_vr 2) (do_vr 3) (nomark _)))))) (ds_one (dS_ret de_bool)) ds_nil)
      (ds_one (dS_ret (de_and (de_callG G_is_price hr rfl (da_cons (do_ex (de_var 4)) da_nil)) (de_one (de_callG G_is_price hr rfl (da_cons (do_ex (de_var 5)) da_nil)))))))))
def d_look_at_web : Sf := (sq (sIf (bOr (bNot (bD (op1 (gIsi "tuple") (.vr 0)))) (bD (op2 gNe (.ex (opA gLen [(.vr 0)])) (.ex (eC (.int 2)))))) (sRaise "NoWeb" "number" (eC .none)) sNx) (sq (sUnp (tgTup (tgsCons (tgName 1) (tgsCons (tgName 2) tgsNil))) (eVar 0)) (sq (sIf (bOr (bNot (bD (eCall [false] g_is_whole [(.ex (eVar 1))]))) (bOr (bNot (bD (eChain gLe gLe (.ex (eC (.int 1))) (.vr 1) (.ex (eC (.int 8)))))) (bOr (bNot (bD (op1 (gIsi "list") (.vr 2)))) (bD (op2 gGt (.ex (opA gLen [(.vr 2)])) (.ex (eC (.int 20)))))))) (sRaise "NoWeb" "number" (eC .none)) sNx) (sq (sSetN 3 eDictT) (sFor (tgTup (tgsCons (tgName 4) (tgsCons (tgName 5) tgsNil))) (iEnL (eVar 2)) (sq (sIf (bOr (bNot (bD (eCall [false, false] g_is_tie [(.ex (eVar 1)), (.ex (eVar 5))]))) (bD (op2 gIn (.ex (eSlice gCut (.vr 5) pNo (pAt (eC (.int 2))))) (.vr 3)))) (sRaise "NoWeb" "number" (eVar 4)) sNx) (sPutD 3 (eC (.bool true)) (.ex (eSlice gCut (.vr 5) pNo (pAt (eC (.int 2))))))))))))
def g_look_at_web : List D → Option ((D ⊕ Ex) × List D) := gOfX 6 [false]  d_look_at_web
theorem sc_look_at_web : FnScope ["thing", "many", "ties", "joined", "number", "tie"] ["thing"] (defScope (top 12)) := ⟨rfl, rfl, rfl, by decide +kernel, rfl, by decide +kernel, by decide +kernel⟩
theorem ok_look_at_web {f : Addr} {fd : FuncData} (F : FnP K "look_at_web" (top 12) f fd) (Z : Zs K mg) (G_is_whole : Got P w K mg base 1 "is_whole" ["thing"] (spD ⟨K, mg, Tb⟩ [false] .fz g_is_whole)) (G_is_tie : Got P w K mg base 3 "is_tie" ["many", "thing"] (spD ⟨K, mg, Tb⟩ [false, false] .fz g_is_tie)) (E_NoWeb : GotE P w K mg base 1 "NoWeb" "number") : FnOk P w K mg base (L2.CX P w) 4 f fd ["thing"] (spX ⟨K, mg, Tb⟩ [false] .fz g_look_at_web) := by
  refine okX F sc_look_at_web (spX_len rfl) (fun cdv A outer s H vs Q E hr h tk => ⟨tS ⟨K, mg, Tb⟩ ⟨fun cls dd _ H' => E cls dd H'⟩ d_look_at_web, ?_, bodyX_of (N := ["thing", "many", "ties", "joined", "number", "tie"]) h⟩)
  exact (ds_cons (dS_if (PW.pt (dw_or (dt_not (dt_val (de_isi (by decide +kernel) rfl Z.z_isinstance (do_vr 0) rfl Z.z_tuple (by decide +kernel)))) (dw_or1 (dt_cmp (op_nes hr.units) ok_ne (do_ex (de_callB call_len1 ok_len rfl Z.z_len (by decide +kernel) (da_cons (do_vr 0) da_nil))) (do_ex de_int) (nomark _))))) (ds_one (dS_raiseG rfl tk E_NoWeb hr rfl de_none)) ds_nil)
      (ds_cons (dS_unp (ts := [1, 2]) (de_var 0) (dg_tup rfl (dgs_cons (dg_name 1 sc_look_at_web.nd) (dgs_cons (dg_name 2 sc_look_at_web.nd) dgs_nil)) (takes_cons (takes_cons takes_nil))))
      (ds_cons (dS_if (PW.pt (dw_or (dt_not (dt_val (de_callG G_is_whole hr rfl (da_cons (do_ex (de_var 1)) da_nil)))) (dw_or (dt_not (dt_chain op_le ok_le op_le ok_le (do_ex de_int) (do_vr 1) (do_ex (de_globInt rfl Z.c_MOST_HOUSES.choose_spec)))) (dw_or (dt_not (dt_val (de_isi (by decide +kernel) rfl Z.z_isinstance (do_vr 2) rfl Z.z_list (by decide +kernel)))) (dw_or1 (dt_cmp op_gt ok_gt (do_ex (de_callB call_len1 ok_len rfl Z.z_len (by decide +kernel) (da_cons (do_vr 2) da_nil))) (do_ex (de_globInt rfl Z.c_MOST_TIES.choose_spec)) (nomark _))))))) (ds_one (dS_raiseG rfl tk E_NoWeb hr rfl de_none)) ds_nil)
      (ds_cons (dS_setN (i := 3) sc_look_at_web.nd de_dictT)
      (ds_one (dS_for (ts := [4, 5]) PassesOwn.leaving rfl (di_enumL rfl Z.z_enumerate (de_var 2)) (dg_tup rfl (dgs_cons (dg_name 4 sc_look_at_web.nd) (dgs_cons (dg_name 5 sc_look_at_web.nd) dgs_nil)) (takes_cons (takes_cons takes_nil))) (ds_cons (dS_if (PW.pt (dw_or (dt_not (dt_val (de_callG G_is_tie hr rfl (da_cons (do_ex (de_var 1)) (da_cons (do_ex (de_var 5)) da_nil))))) (dw_or1 (dt_cmp (op_ins (units65 hr)) ok_in (do_ex (de_slice (do_vr 5) dp_none (dp_some de_int))) (do_vr 3) rfl)))) (ds_one (dS_raiseG rfl tk E_NoWeb hr rfl (de_var 4))) ds_nil)
      (ds_one (dS_putD (i := 3) (units1 hr) de_bool (do_ex (de_slice (do_vr 5) dp_none (dp_some de_int))))))))))))
theorem okY_look_at_web {f : Addr} {fd : FuncData} (F : FnP K "look_at_web" (top 12) f fd) (Z : Zs K mg) (G_is_whole : Got P w K mg base 1 "is_whole" ["thing"] (spD ⟨K, mg, Tb⟩ [false] .fz g_is_whole)) (G_is_tie : Got P w K mg base 3 "is_tie" ["many", "thing"] (spD ⟨K, mg, Tb⟩ [false, false] .fz g_is_tie)) (E_NoWeb : GotE P w K mg base 1 "NoWeb" "number") : FnOk P w K mg base (L2N.CX P w) 4 f fd ["thing"] (spX ⟨K, mg, Tb⟩ [false] .fz g_look_at_web) := by
  refine okXY F sc_look_at_web (spX_len rfl) (fun cdv A outer s H vs Q E hr h tk => ⟨tS ⟨K, mg, Tb⟩ ⟨fun cls dd _ H' => E cls dd H'⟩ d_look_at_web, ?_, bodyX_of (N := ["thing", "many", "ties", "joined", "number", "tie"]) h⟩)
  exact (ds_cons (dS_if (PW.pt (dw_or (dt_not (dt_val (de_isi (by decide +kernel) rfl Z.z_isinstance (do_vr 0) rfl Z.z_tuple (by decide +kernel)))) (dw_or1 (dt_cmp (op_nes hr.units) ok_ne (do_ex (de_callB call_len1 ok_len rfl Z.z_len (by decide +kernel) (da_cons (do_vr 0) da_nil))) (do_ex de_int) (nomark _))))) (ds_one (dS_raiseGY rfl tk E_NoWeb hr rfl de_none)) ds_nil)
      (ds_cons (dS_unp (ts := [1, 2]) (de_var 0) (dg_tup rfl (dgs_cons (dg_name 1 sc_look_at_web.nd) (dgs_cons (dg_name 2 sc_look_at_web.nd) dgs_nil)) (takes_cons (takes_cons takes_nil))))
      (ds_cons (dS_if (PW.pt (dw_or (dt_not (dt_val (de_callG G_is_whole hr rfl (da_cons (do_ex (de_var 1)) da_nil)))) (dw_or (dt_not (dt_chain op_le ok_le op_le ok_le (do_ex de_int) (do_vr 1) (do_ex (de_globInt rfl Z.c_MOST_HOUSES.choose_spec)))) (dw_or (dt_not (dt_val (de_isi (by decide +kernel) rfl Z.z_isinstance (do_vr 2) rfl Z.z_list (by decide +kernel)))) (dw_or1 (dt_cmp op_gt ok_gt (do_ex (de_callB call_len1 ok_len rfl Z.z_len (by decide +kernel) (da_cons (do_vr 2) da_nil))) (do_ex (de_globInt rfl Z.c_MOST_TIES.choose_spec)) (nomark _))))))) (ds_one (dS_raiseGY rfl tk E_NoWeb hr rfl de_none)) ds_nil)
      (ds_cons (dS_setN (i := 3) sc_look_at_web.nd de_dictT)
      (ds_one (dS_for (ts := [4, 5]) PassesOwn.leaving rfl (di_enumL rfl Z.z_enumerate (de_var 2)) (dg_tup rfl (dgs_cons (dg_name 4 sc_look_at_web.nd) (dgs_cons (dg_name 5 sc_look_at_web.nd) dgs_nil)) (takes_cons (takes_cons takes_nil))) (ds_cons (dS_if (PW.pt (dw_or (dt_not (dt_val (de_callG G_is_tie hr rfl (da_cons (do_ex (de_var 1)) (da_cons (do_ex (de_var 5)) da_nil))))) (dw_or1 (dt_cmp (op_ins (units65 hr)) ok_in (do_ex (de_slice (do_vr 5) dp_none (dp_some de_int))) (do_vr 3) rfl)))) (ds_one (dS_raiseGY rfl tk E_NoWeb hr rfl (de_var 4))) ds_nil)
      (ds_one (dS_putD (i := 3) (units1 hr) de_bool (do_ex (de_slice (do_vr 5) dp_none (dp_some de_int))))))))))))
def d_is_told_tie : Sf := (sq (sIf (bOr (bNot (bD (op1 (gIsi "tuple") (.vr 1)))) (bD (op2 gNe (.ex (opA gLen [(.vr 1)])) (.ex (eC (.int 2)))))) (sRet (eC (.bool false))) sNx) (sRet (eAnd (eCall [false, false] g_is_house [(.ex (eC (.int 8))), (.ex (op2 gIxs (.vr 1) (.ex (eC (.int 0)))))]) (eAnd (op2 gNe (.ex (op2 gIxs (.vr 1) (.ex (eC (.int 0))))) (.vr 0)) (eCall [false] g_is_price [(.ex (op2 gIxs (.vr 1) (.ex (eC (.int 1)))))])))))
def g_is_told_tie : List D → Option (D × List D) := gOf 2 [false, false]  d_is_told_tie
theorem sc_is_told_tie : FnScope ["house", "thing"] ["house", "thing"] (defScope (top 15)) := ⟨rfl, rfl, rfl, by decide +kernel, rfl, by decide +kernel, by decide +kernel⟩
theorem ok_is_told_tie {f : Addr} {fd : FuncData} (F : FnP K "is_told_tie" (top 15) f fd) (Z : Zs K mg) (G_is_house : Got P w K mg base 2 "is_house" ["many", "thing"] (spD ⟨K, mg, Tb⟩ [false, false] .fz g_is_house)) (G_is_price : Got P w K mg base 2 "is_price" ["thing"] (spD ⟨K, mg, Tb⟩ [false] .fz g_is_price)) : FnOk P w K mg base CX0 3 f fd ["house", "thing"] (spD ⟨K, mg, Tb⟩ [false, false] .fz g_is_told_tie) := by
  refine okP F sc_is_told_tie (spD_len rfl) (fun cdv A outer s H vs Q E hr h => ⟨tS ⟨K, mg, Tb⟩ wh0 d_is_told_tie, ?_, body_of (N := ["house", "thing"]) h⟩)
  exact (ds_cons (dS_if (PW.pt (dw_or (dt_not (dt_val (de_isi (by decide +kernel) rfl Z.z_isinstance (do_vr 1) rfl Z.z_tuple (by decide +kernel)))) (dw_or1 (dt_cmp (op_nes hr.units) ok_ne (do_ex (de_callB call_len1 ok_len rfl Z.z_len (by decide +kernel) (da_cons (do_vr 1) da_nil))) (do_ex de_int) (nomark _))))) (ds_one (dS_ret de_bool)) ds_nil)
      (ds_one (dS_ret (de_and (de_callG G_is_house hr rfl (da_cons (do_ex (de_globInt rfl Z.c_MOST_HOUSES.choose_spec)) (da_cons (do_ex (de_ixs (units1 hr) (do_vr 1) (do_ex de_int) (fun _ _ => rfl))) da_nil))) (de_and (de_cmp (op_nes hr.units) ok_ne (do_ex (de_ixs (units1 hr) (do_vr 1) (do_ex de_int) (fun _ _ => rfl))) (do_vr 0) (nomark _)) (de_one (de_callG G_is_price hr rfl (da_cons (do_ex (de_ixs (units1 hr) (do_vr 1) (do_ex de_int) (fun _ _ => rfl))) da_nil))))))))
def d_are_told_ties : Sf := (sq (sIf (bOr (bNot (bD (op1 (gIsi "tuple") (.vr 1)))) (bNot (bD (opA gAll [(.ex (eLc [2] (tgName 2) (iT (eVar 1)) bTrue (eCall [false, false] g_is_told_tie [(.ex (eVar 0)), (.ex (eVar 2))])))])))) (sRet (eC (.bool false))) sNx) (sRet (opA gAll [(.ex (eLc [2, 3] (tgTup (tgsCons (tgName 2) (tgsCons (tgName 3) tgsNil))) (iZipT (eVar 1) (eSlice gCut (.vr 1) (pAt (eC (.int 1))) pNo)) bTrue (op2 gLt (.ex (op2 gIxs (.vr 2) (.ex (eC (.int 0))))) (.ex (op2 gIxs (.vr 3) (.ex (eC (.int 0))))))))])))
def g_are_told_ties : List D → Option (D × List D) := gOf 4 [false, false]  d_are_told_ties
theorem sc_are_told_ties : FnScope ["house", "thing", "one", "other"] ["house", "thing"] (defScope (top 16)) := ⟨rfl, rfl, rfl, by decide +kernel, rfl, by decide +kernel, by decide +kernel⟩
theorem ok_are_told_ties {f : Addr} {fd : FuncData} (F : FnP K "are_told_ties" (top 16) f fd) (Z : Zs K mg) (G_is_told_tie : Got P w K mg base 3 "is_told_tie" ["house", "thing"] (spD ⟨K, mg, Tb⟩ [false, false] .fz g_is_told_tie)) : FnOk P w K mg base CX0 4 f fd ["house", "thing"] (spD ⟨K, mg, Tb⟩ [false, false] .fz g_are_told_ties) := by
  refine okP F sc_are_told_ties (spD_len rfl) (fun cdv A outer s H vs Q E hr h => ⟨tS ⟨K, mg, Tb⟩ wh0 d_are_told_ties, ?_, body_of (N := ["house", "thing", "one", "other"]) h⟩)
  exact (ds_cons (dS_if (PW.pt (dw_or (dt_not (dt_val (de_isi (by decide +kernel) rfl Z.z_isinstance (do_vr 1) rfl Z.z_tuple (by decide +kernel)))) (dw_or1 (dt_not (dt_val (de_callB (cr_all rfl) ok_all rfl Z.z_all (by decide +kernel) (da_cons (do_ex (de_new (de_lc (own := [("one", 2)]) rfl sc_are_told_ties.nd (ts := [2]) (by decide) (di_tup (de_var 1)) (blkOk_by (own := [("one", 2)]) (N := ["house", "thing", "one", "other"]) (sc := (defScope (top 16))) (by decide +kernel)) (fun _ _ _ _ _ => (dg_name 2 sc_are_told_ties.nd)) (fun _ _ _ _ _ => dts_nil) (fun _ _ _ _ _ => (de_callG G_is_told_tie hr rfl (da_cons (do_ex (de_var 0)) (da_cons (do_ex (de_var 2)) da_nil))))))) da_nil))))))) (ds_one (dS_ret de_bool)) ds_nil)
      (ds_one (dS_ret (de_callB (cr_all rfl) ok_all rfl Z.z_all (by decide +kernel) (da_cons (do_ex (de_new (de_lc (own := [("one", 2), ("other", 3)]) rfl sc_are_told_ties.nd (ts := [2, 3]) (by decide) (di_zipT rfl Z.z_zip (de_var 1) (de_slice (do_vr 1) (dp_some de_int) dp_none)) (blkOk_by (own := [("one", 2), ("other", 3)]) (N := ["house", "thing", "one", "other"]) (sc := (defScope (top 16))) (by decide +kernel)) (fun _ _ _ _ _ => (dg_tup rfl (dgs_cons (dg_name 2 sc_are_told_ties.nd) (dgs_cons (dg_name 3 sc_are_told_ties.nd) dgs_nil)) (takes_cons (takes_cons takes_nil)))) (fun _ _ _ _ _ => dts_nil) (fun _ _ _ _ _ => (de_cmp op_lt ok_lt (do_ex (de_ixs (units1 hr) (do_vr 2) (do_ex de_int) (fun _ _ => rfl))) (do_ex (de_ixs (units1 hr) (do_vr 3) (do_ex de_int) (fun _ _ => rfl))) (nomark _)))))) da_nil)))))
def d_is_sheet : Sf := (sq (sIf (bOr (bNot (bD (op1 (gIsi "tuple") (.vr 0)))) (bD (op2 gNe (.ex (opA gLen [(.vr 0)])) (.ex (eC (.int 5)))))) (sRet (eC (.bool false))) sNx) (sq (sUnp (tgTup (tgsCons (tgName 1) (tgsCons (tgName 2) (tgsCons (tgName 3) (tgsCons (tgName 4) (tgsCons (tgName 5) tgsNil)))))) (eVar 0)) (sq (sIf (bOr (bNot (bD (eCall [false, false] g_is_house [(.ex (eC (.int 8))), (.ex (eVar 1))]))) (bOr (bNot (bD (eCall [false] g_is_whole [(.ex (eVar 2))]))) (bOr (bD (op2 gLt (.vr 2) (.ex (eC (.int 1))))) (bNot (bD (op1 (gIsi "bool") (.vr 3))))))) (sRet (eC (.bool false))) sNx) (sq (sIf (bOr (bNot (bD (eCall [false, false] g_are_told_ties [(.ex (eVar 1)), (.ex (eVar 4))]))) (bAnd (bD (eVar 3)) (bD (op2 gNe (.vr 4) (.ex (eTup [])))))) (sRet (eC (.bool false))) sNx) (sRet (eAnd (eCall [false] g_is_whole [(.ex (eVar 5))]) (eChain gLe gLe (.ex (eC (.int 0))) (.vr 5) (.ex (eC (.int 40))))))))))
def g_is_sheet : List D → Option (D × List D) := gOf 6 [false]  d_is_sheet
theorem sc_is_sheet : FnScope ["thing", "house", "number", "ended", "ties", "age"] ["thing"] (defScope (top 17)) := ⟨rfl, rfl, rfl, by decide +kernel, rfl, by decide +kernel, by decide +kernel⟩
theorem ok_is_sheet {f : Addr} {fd : FuncData} (F : FnP K "is_sheet" (top 17) f fd) (Z : Zs K mg) (G_is_whole : Got P w K mg base 1 "is_whole" ["thing"] (spD ⟨K, mg, Tb⟩ [false] .fz g_is_whole)) (G_is_house : Got P w K mg base 2 "is_house" ["many", "thing"] (spD ⟨K, mg, Tb⟩ [false, false] .fz g_is_house)) (G_are_told_ties : Got P w K mg base 4 "are_told_ties" ["house", "thing"] (spD ⟨K, mg, Tb⟩ [false, false] .fz g_are_told_ties)) : FnOk P w K mg base CX0 5 f fd ["thing"] (spD ⟨K, mg, Tb⟩ [false] .fz g_is_sheet) := by
  refine okP F sc_is_sheet (spD_len rfl) (fun cdv A outer s H vs Q E hr h => ⟨tS ⟨K, mg, Tb⟩ wh0 d_is_sheet, ?_, body_of (N := ["thing", "house", "number", "ended", "ties", "age"]) h⟩)
  exact (ds_cons (dS_if (PW.pt (dw_or (dt_not (dt_val (de_isi (by decide +kernel) rfl Z.z_isinstance (do_vr 0) rfl Z.z_tuple (by decide +kernel)))) (dw_or1 (dt_cmp (op_nes hr.units) ok_ne (do_ex (de_callB call_len1 ok_len rfl Z.z_len (by decide +kernel) (da_cons (do_vr 0) da_nil))) (do_ex de_int) (nomark _))))) (ds_one (dS_ret de_bool)) ds_nil)
      (ds_cons (dS_unp (ts := [1, 2, 3, 4, 5]) (de_var 0) (dg_tup rfl (dgs_cons (dg_name 1 sc_is_sheet.nd) (dgs_cons (dg_name 2 sc_is_sheet.nd) (dgs_cons (dg_name 3 sc_is_sheet.nd) (dgs_cons (dg_name 4 sc_is_sheet.nd) (dgs_cons (dg_name 5 sc_is_sheet.nd) dgs_nil))))) (takes_cons (takes_cons (takes_cons (takes_cons (takes_cons takes_nil)))))))
      (ds_cons (dS_if (PW.pt (dw_or (dt_not (dt_val (de_callG G_is_house hr rfl (da_cons (do_ex (de_globInt rfl Z.c_MOST_HOUSES.choose_spec)) (da_cons (do_ex (de_var 1)) da_nil))))) (dw_or (dt_not (dt_val (de_callG G_is_whole hr rfl (da_cons (do_ex (de_var 2)) da_nil)))) (dw_or (dt_cmp op_lt ok_lt (do_vr 2) (do_ex de_int) (nomark _)) (dw_or1 (dt_not (dt_val (de_isi (by decide +kernel) rfl Z.z_isinstance (do_vr 3) rfl Z.z_bool (by decide +kernel))))))))) (ds_one (dS_ret de_bool)) ds_nil)
      (ds_cons (dS_if (PW.pt (dw_or (dt_not (dt_val (de_callG G_are_told_ties hr rfl (da_cons (do_ex (de_var 1)) (da_cons (do_ex (de_var 4)) da_nil))))) (dw_or1 (PW.pt (dw_and (dt_val (de_var 3)) (dw_and1 (dt_cmp (op_nes hr.units) ok_ne (do_vr 4) (do_ex (de_tup da_nil)) (nomark _)))))))) (ds_one (dS_ret de_bool)) ds_nil)
      (ds_one (dS_ret (de_and (de_callG G_is_whole hr rfl (da_cons (do_ex (de_var 5)) da_nil)) (de_one (de_chain op_le ok_le op_le ok_le (do_ex de_int) (do_vr 5) (do_ex (de_globInt rfl Z.c_MOST_AGE.choose_spec)))))))))))
def d_is_figures : Sf := (sq (sIf (bOr (bNot (bD (eChain gLe gLe (.ex (eC (.int 1))) (.ex (opA gLen [(.vr 0)])) (.ex (eC (.int 9)))))) (bNot (bD (opA gAll [(.ex (eLc [1] (tgName 1) (iS (eVar 0)) bTrue (op2 (gInS false) (.vr 1) (.ex (eC (.str "0123456789"))))))])))) (sRet (eC (.bool false))) sNx) (sRet (eOr (op2 gEq (.vr 0) (.ex (eC (.str "0")))) (eNot (opM gStarts (eVar 0) [(.ex (eC (.str "0")))])))))
def g_is_figures : List D → Option (D × List D) := gOf 2 [false]  d_is_figures
theorem sc_is_figures : FnScope ["word", "sign"] ["word"] (defScope (top 22)) := ⟨rfl, rfl, rfl, by decide +kernel, rfl, by decide +kernel, by decide +kernel⟩
theorem ok_is_figures {f : Addr} {fd : FuncData} (F : FnP K "is_figures" (top 22) f fd) (Z : Zs K mg)  : FnOk P w K mg base CX0 1 f fd ["word"] (spD ⟨K, mg, Tb⟩ [false] .fz g_is_figures) := by
  refine okP F sc_is_figures (spD_len rfl) (fun cdv A outer s H vs Q E hr h => ⟨tS ⟨K, mg, Tb⟩ wh0 d_is_figures, ?_, body_of (N := ["word", "sign"]) h⟩)
  exact (ds_cons (dS_if (PW.pt (dw_or (dt_not (dt_chain op_le ok_le op_le ok_le (do_ex de_int) (do_ex (de_callB call_len1 ok_len rfl Z.z_len (by decide +kernel) (da_cons (do_vr 0) da_nil))) (do_ex (de_globInt rfl Z.c_MOST_FIGURES.choose_spec)))) (dw_or1 (dt_not (dt_val (de_callB (cr_all rfl) ok_all rfl Z.z_all (by decide +kernel) (da_cons (do_ex (de_new (de_lc (own := [("sign", 1)]) rfl sc_is_figures.nd (ts := [1]) (by decide) (di_str (de_var 0)) (blkOk_by (own := [("sign", 1)]) (N := ["word", "sign"]) (sc := (defScope (top 22))) (by decide +kernel)) (fun _ _ _ _ _ => (dg_name 1 sc_is_figures.nd)) (fun _ _ _ _ _ => dts_nil) (fun _ _ _ _ _ => (de_cmp op_in_sign ok_inS (do_vr 1) (do_ex (de_globStr rfl Z.s_FIGURES.choose_spec)) rfl))))) da_nil))))))) (ds_one (dS_ret de_bool)) ds_nil)
      (ds_one (dS_ret (de_or (de_cmp (op_eqs hr.units) ok_eq (do_vr 0) (do_ex de_str) (nomark _)) (de_one (de_not (de_strM PySem.F.slot_str_startswith PySem.F.type_str_startswith mt_startswith ok_starts (de_var 0) (da_cons (do_ex de_str) da_nil))))))))
def d_are_figures : Sf := (sRet (opA gAll [(.ex (eLc [1] (tgName 1) (iL (eVar 0)) bTrue (eCall [false] g_is_figures [(.ex (eVar 1))])))]))
def g_are_figures : List D → Option (D × List D) := gOf 2 [false]  d_are_figures
theorem sc_are_figures : FnScope ["words", "word"] ["words"] (defScope (top 23)) := ⟨rfl, rfl, rfl, by decide +kernel, rfl, by decide +kernel, by decide +kernel⟩
theorem ok_are_figures {f : Addr} {fd : FuncData} (F : FnP K "are_figures" (top 23) f fd) (Z : Zs K mg) (G_is_figures : Got P w K mg base 1 "is_figures" ["word"] (spD ⟨K, mg, Tb⟩ [false] .fz g_is_figures)) : FnOk P w K mg base CX0 2 f fd ["words"] (spD ⟨K, mg, Tb⟩ [false] .fz g_are_figures) := by
  refine okP F sc_are_figures (spD_len rfl) (fun cdv A outer s H vs Q E hr h => ⟨tS ⟨K, mg, Tb⟩ wh0 d_are_figures, ?_, body_of (N := ["words", "word"]) h⟩)
  exact (ds_one (dS_ret (de_callB (cr_all rfl) ok_all rfl Z.z_all (by decide +kernel) (da_cons (do_ex (de_new (de_lc (own := [("word", 1)]) rfl sc_are_figures.nd (ts := [1]) (by decide) (di_list (de_var 0)) (blkOk_by (own := [("word", 1)]) (N := ["words", "word"]) (sc := (defScope (top 23))) (by decide +kernel)) (fun _ _ _ _ _ => (dg_name 1 sc_are_figures.nd)) (fun _ _ _ _ _ => dts_nil) (fun _ _ _ _ _ => (de_callG G_is_figures hr rfl (da_cons (do_ex (de_var 1)) da_nil)))))) da_nil))))
def d_look_at_text : Sf := (sIf (bNot (bD (op1 (gIsi "str") (.vr 0)))) (sRaise "NoText" "row" (eC (.int 0))) sNx)
def g_look_at_text : List D → Option ((D ⊕ Ex) × List D) := gOfX 1 [false]  d_look_at_text
theorem sc_look_at_text : FnScope ["text"] ["text"] (defScope (top 24)) := ⟨rfl, rfl, rfl, by decide +kernel, rfl, by decide +kernel, by decide +kernel⟩
theorem ok_look_at_text {f : Addr} {fd : FuncData} (F : FnP K "look_at_text" (top 24) f fd) (Z : Zs K mg)  (E_NoText : GotE P w K mg base 1 "NoText" "row") : FnOk P w K mg base (L2.CX P w) 3 f fd ["text"] (spX ⟨K, mg, Tb⟩ [false] .fz g_look_at_text) := by
  refine okX F sc_look_at_text (spX_len rfl) (fun cdv A outer s H vs Q E hr h tk => ⟨tS ⟨K, mg, Tb⟩ ⟨fun cls dd _ H' => E cls dd H'⟩ d_look_at_text, ?_, bodyX_of (N := ["text"]) h⟩)
  exact (ds_one (dS_if (dt_not (dt_val (de_isi (by decide +kernel) rfl Z.z_isinstance (do_vr 0) rfl Z.z_str (by decide +kernel)))) (ds_one (dS_raiseG rfl tk E_NoText hr rfl de_int)) ds_nil))
def d_shown_web : Sf := (sq (sDropX (eCallX [false] g_look_at_web [(.ex (eVar 0))])) (sRet (opM gJoin (eC (.str "\n")) [(.ex (op2 gAdd (.ex (eLst [(.ex (eJs [(eC (.str "houses ")), (eFmt (op2 gIxs (.vr 0) (.ex (eC (.int 0)))))]))])) (.ex (eLc [2] (tgName 2) (iL (op2 gIxs (.vr 0) (.ex (eC (.int 1))))) bTrue (opM gJoin (eC (.str " ")) [(.ex (op2 gAdd (.ex (eLst [(.ex (eC (.str "tie")))])) (.ex (eLc [1] (tgName 1) (iT (eVar 2)) bTrue (opA gStrI [(.vr 1)])))))])))))])))
def g_shown_web : List D → Option ((D ⊕ Ex) × List D) := gOfX 3 [false]  d_shown_web
theorem sc_shown_web : FnScope ["web", "part", "tie"] ["web"] (defScope (top 25)) := ⟨rfl, rfl, rfl, by decide +kernel, rfl, by decide +kernel, by decide +kernel⟩
theorem ok_shown_web {f : Addr} {fd : FuncData} (F : FnP K "shown_web" (top 25) f fd) (Z : Zs K mg) (G_look_at_web : GotX P w K mg base 4 "look_at_web" ["thing"] (spX ⟨K, mg, Tb⟩ [false] .fz g_look_at_web)) : FnOk P w K mg base (L2.CX P w) 5 f fd ["web"] (spX ⟨K, mg, Tb⟩ [false] .fz g_shown_web) := by
  refine okX F sc_shown_web (spX_len rfl) (fun cdv A outer s H vs Q E hr h tk => ⟨tS ⟨K, mg, Tb⟩ ⟨fun cls dd _ H' => E cls dd H'⟩ d_shown_web, ?_, bodyX_of (N := ["web", "part", "tie"]) h⟩)
  exact (ds_cons (dS_dropX (de_callXG tk G_look_at_web hr rfl (da_cons (do_ex (de_var 0)) da_nil)))
      (ds_one (dS_ret (de_strM PySem.F.slot_str_join PySem.F.type_str_join mt_join ok_join de_str (da_cons (do_ex (de_op op_adds ok_adds (do_ex (de_new (de_lst (da_cons (do_ex (de_js (fs := [(eC (.str "houses ")), (eFmt (op2 gIxs (.vr 0) (.ex (eC (.int 0)))))]) (.cons de_str (.cons (de_fmt (de_ixs (units1 hr) (do_vr 0) (do_ex de_int) (fun _ _ => rfl))) .nil)))) da_nil)))) (do_ex (de_new (de_lc (own := [("tie", 2)]) rfl sc_shown_web.nd (ts := [2]) (by decide) (di_list (de_ixs (units1 hr) (do_vr 0) (do_ex de_int) (fun _ _ => rfl))) (blkOk_by (own := [("tie", 2)]) (N := ["web", "part", "tie"]) (sc := (defScope (top 25))) (by decide +kernel)) (fun _ _ _ _ _ => (dg_name 2 sc_shown_web.nd)) (fun _ _ _ _ _ => dts_nil) (fun _ _ _ _ _ => (de_strM PySem.F.slot_str_join PySem.F.type_str_join mt_join ok_join de_str (da_cons (do_ex (de_op op_adds ok_adds (do_ex (de_new (de_lst (da_cons (do_ex de_str) da_nil)))) (do_ex (de_new (de_lc (own := [("part", 1)]) rfl sc_shown_web.nd (ts := [1]) (by decide) (di_tup (de_var 2)) (blkOk_by (own := [("part", 1)]) (N := ["web", "part", "tie"]) (sc := { kind := ScopeKind.function, names := [((".0" : Str), NameKind.local), (("tie" : Str), NameKind.local)], isGenerator := false, isCoroutine := false }) (by decide +kernel)) (fun _ _ _ _ _ => (dg_name 1 sc_shown_web.nd)) (fun _ _ _ _ _ => dts_nil) (fun _ _ _ _ _ => (de_callTy call_str_int ok_strI rfl Z.z_str (by decide +kernel) (da_cons (do_vr 1) da_nil)))))))) da_nil)))))))) da_nil)))))
def d_read_web : Sf := (sq (sDropX (eCallX [false] g_look_at_text [(.ex (eVar 0))])) (sq (sUnp (tgStarL 2 1 (tgsCons (tgName 2) (tgsCons (tgName 3) tgsNil))) (eLc [1] (tgName 1) (iL (opM gSplit (eVar 0) [(.ex (eC (.str "\n")))])) bTrue (opM gSplit (eVar 1) [(.ex (eC (.str " ")))]))) (sq (sIf (bOr (bD (op2 gNe (.ex (opA gLen [(.vr 2)])) (.ex (eC (.int 2))))) (bOr (bD (op2 gNe (.ex (op2 gIxs (.vr 2) (.ex (eC (.int 0))))) (.ex (eC (.str "houses"))))) (bNot (bD (eCall [false] g_is_figures [(.ex (op2 gIxs (.vr 2) (.ex (eC (.int 1)))))]))))) (sRaise "NoText" "row" (eC (.int 0))) sNx) (sq (sSetN 4 (eLst [])) (sq (sFor (tgTup (tgsCons (tgName 1) (tgsCons (tgName 5) tgsNil))) (iEnC 1 (eVar 3)) (sq (sIf (bOr (bD (op2 gNe (.ex (opA gLen [(.vr 5)])) (.ex (eC (.int 5))))) (bOr (bD (op2 gNe (.ex (op2 gIxs (.vr 5) (.ex (eC (.int 0))))) (.ex (eC (.str "tie"))))) (bNot (bD (eCall [false] g_are_figures [(.ex (eSlice gCut (.vr 5) (pAt (eC (.int 1))) pNo))]))))) (sRaise "NoText" "row" (eVar 1)) sNx) (sDrop (eMeth 4 gAppend [(.ex (opA gTuple [(.ex (eLc [6] (tgName 6) (iL (eSlice gCut (.vr 5) (pAt (eC (.int 1))) pNo)) bTrue (opA gIntS [(.vr 6)])))]))])))) (sq (sSetT 7 (mTup [(mF (opA gIntS [(.ex (op2 gIxs (.vr 2) (.ex (eC (.int 1)))))])), (mOw (.ls .fz) 4)])) (sq (sTryG (sDropX (eCallXB g_look_at_web [(.t 7)])) (mt [("NoWeb", true)]) 8 "NoText" "row" (eC .none)) (sRetT (mTr 7)))))))))
def g_read_web : List D → Option ((D ⊕ Ex) × List D) := gOfXM 9 [false] (.tp (.cn "" .fz (.cn "" (.ls .fz) .nl))) d_read_web
theorem sc_read_web : FnScope ["text", "row", "first", "rest", "ties", "words", "word", "web", "e"] ["text"] (defScope (top 26)) := ⟨rfl, rfl, rfl, by decide +kernel, rfl, by decide +kernel, by decide +kernel⟩
theorem ok_read_web {f : Addr} {fd : FuncData} (F : FnP K "read_web" (top 26) f fd) (Z : Zs K mg) (G_look_at_text : GotX P w K mg base 3 "look_at_text" ["text"] (spX ⟨K, mg, Tb⟩ [false] .fz g_look_at_text)) (G_look_at_web : GotX P w K mg base 4 "look_at_web" ["thing"] (spX ⟨K, mg, Tb⟩ [false] .fz g_look_at_web)) (G_is_figures : Got P w K mg base 1 "is_figures" ["word"] (spD ⟨K, mg, Tb⟩ [false] .fz g_is_figures)) (G_are_figures : Got P w K mg base 2 "are_figures" ["words"] (spD ⟨K, mg, Tb⟩ [false] .fz g_are_figures)) (GY_look_at_web : GotXY P w K mg base 4 "look_at_web" ["thing"] (spX ⟨K, mg, Tb⟩ [false] .fz g_look_at_web)) (E_NoText : GotE P w K mg base 1 "NoText" "row") (E_NoWeb : GotE P w K mg base 1 "NoWeb" "number") (EH_NoText : GotEH P w K mg base 1 "NoText" "row") : FnOk P w K mg base (L2.CX P w) 5 f fd ["text"] (spX ⟨K, mg, Tb⟩ [false] (.tr (.tp (.cn "" .fz (.cn "" (.ls .fz) .nl)))) g_read_web) := by
  refine okX F sc_read_web (spX_len rfl) (fun cdv A outer s H vs Q E hr h tk => ⟨tS ⟨K, mg, Tb⟩ ⟨fun cls dd _ H' => E cls dd H'⟩ d_read_web, ?_, bodyXM_of (N := ["text", "row", "first", "rest", "ties", "words", "word", "web", "e"]) h⟩)
  exact (ds_cons (dS_dropX (de_callXG tk G_look_at_text hr rfl (da_cons (do_ex (de_var 0)) da_nil)))
      (ds_cons (dS_unp (ts := [2, 3]) (de_new (de_lc (own := [("row", 1)]) rfl sc_read_web.nd (ts := [1]) (by decide) (di_list (de_new (de_strMN PySem.F.slot_str_split PySem.F.type_str_split mt_split ok_split (de_var 0) (da_cons (do_ex de_str) da_nil)))) (blkOk_by (own := [("row", 1)]) (N := ["text", "row", "first", "rest", "ties", "words", "word", "web", "e"]) (sc := (defScope (top 26))) (by decide +kernel)) (fun _ _ _ _ _ => (dg_name 1 sc_read_web.nd)) (fun _ _ _ _ _ => dts_nil) (fun _ _ _ _ _ => (de_new (de_strMN PySem.F.slot_str_split PySem.F.type_str_split mt_split ok_split (de_var 1) (da_cons (do_ex de_str) da_nil)))))) (dg_starL (n := 2) (i := 1) rfl (dgs_cons (dg_name 2 sc_read_web.nd) (dgs_star (dg_name 3 sc_read_web.nd) dgs_nil))))
      (ds_cons (dS_if (PW.pt (dw_or (dt_cmp (op_nes hr.units) ok_ne (do_ex (de_callB call_len1 ok_len rfl Z.z_len (by decide +kernel) (da_cons (do_vr 2) da_nil))) (do_ex de_int) (nomark _)) (dw_or (dt_cmp (op_nes hr.units) ok_ne (do_ex (de_ixs (units1 hr) (do_vr 2) (do_ex de_int) (fun _ _ => rfl))) (do_ex de_str) (nomark _)) (dw_or1 (dt_not (dt_val (de_callG G_is_figures hr rfl (da_cons (do_ex (de_ixs (units1 hr) (do_vr 2) (do_ex de_int) (fun _ _ => rfl))) da_nil)))))))) (ds_one (dS_raiseG rfl tk E_NoText hr rfl de_int)) ds_nil)
      (ds_cons (dS_setN (i := 4) sc_read_web.nd (de_lst da_nil))
      (ds_cons (dS_for (ts := [1, 5]) PassesOwn.leaving rfl (di_enumC rfl Z.z_enumerate (de_var 3)) (dg_tup rfl (dgs_cons (dg_name 1 sc_read_web.nd) (dgs_cons (dg_name 5 sc_read_web.nd) dgs_nil)) (takes_cons (takes_cons takes_nil))) (ds_cons (dS_if (PW.pt (dw_or (dt_cmp (op_nes hr.units) ok_ne (do_ex (de_callB call_len1 ok_len rfl Z.z_len (by decide +kernel) (da_cons (do_vr 5) da_nil))) (do_ex de_int) (nomark _)) (dw_or (dt_cmp (op_nes hr.units) ok_ne (do_ex (de_ixs (units1 hr) (do_vr 5) (do_ex de_int) (fun _ _ => rfl))) (do_ex de_str) (nomark _)) (dw_or1 (dt_not (dt_val (de_callG G_are_figures hr rfl (da_cons (do_ex (de_slice (do_vr 5) (dp_some de_int) dp_none)) da_nil)))))))) (ds_one (dS_raiseG rfl tk E_NoText hr rfl (de_var 1))) ds_nil)
      (ds_one (dS_drop (de_append (i := 4) (da_cons (do_ex (de_callTy call_tuple_of ok_tuple rfl Z.z_tuple (by decide +kernel) (da_cons (do_ex (de_new (de_lc (own := [("word", 6)]) rfl sc_read_web.nd (ts := [6]) (by decide) (di_list (de_slice (do_vr 5) (dp_some de_int) dp_none)) (blkOk_by (own := [("word", 6)]) (N := ["text", "row", "first", "rest", "ties", "words", "word", "web", "e"]) (sc := (defScope (top 26))) (by decide +kernel)) (fun _ _ _ _ _ => (dg_name 6 sc_read_web.nd)) (fun _ _ _ _ _ => dts_nil) (fun _ _ _ _ _ => (de_callTy call_int_str ok_intS rfl Z.z_int (by decide +kernel) (da_cons (do_vr 6) da_nil)))))) da_nil))) da_nil))))))
      (ds_cons (dS_setT (i := 7) sc_read_web.nd (dm_tup (dma_cons (dm_fz (de_callTy call_int_str ok_intS rfl Z.z_int (by decide +kernel) (da_cons (do_ex (de_ixs (units1 hr) (do_vr 2) (do_ex de_int) (fun _ _ => rfl))) da_nil))) (dma_cons (dm_ow (.ls .fz) 4) dma_nil))))
      (ds_cons (dS_tryG rfl rfl rfl sc_read_web.nd rfl rfl (by decide) ⟨rfl, by decide, .inl Z.m_NoWeb⟩ (mtOk_cons (at_cls Z.m_NoWeb Z.x_NoWeb_NoWeb) mtOk_nil) (rkOk_one (E_NoWeb.raises)) (L2H.passesAt_of rfl) tk EH_NoText hr rfl (by decide) (fun _ _ _ => de_none) (fun W pn xe tk pw => (ds_one (dS_dropX (de_callXBY tk GY_look_at_web hr rfl rfl (db_t (i := 7) db_nil))))))
      (ds_one (dS_retT (dm_tr 7))))))))))
def d_shown_sheet : Sf := (sq (sUnp (tgTup (tgsCons (tgName 1) (tgsCons (tgName 2) (tgsCons (tgName 3) (tgsCons (tgName 4) (tgsCons (tgName 5) tgsNil)))))) (eVar 0)) (sq (sSet 6 (eLst [(.ex (eIf (bD (eVar 3)) (eC (.str "ended")) (eC (.str "sheet")))), (.ex (opA gStrI [(.vr 1)])), (.ex (opA gStrI [(.vr 2)])), (.ex (opA gStrI [(.vr 5)]))])) (sRet (opM gJoin (eC (.str " ")) [(.ex (op2 gAdd (.vr 6) (.ex (eLc [7, 8] (tgTup (tgsCons (tgName 7) (tgsCons (tgName 8) tgsNil))) (iT (eVar 4)) bTrue (eJs [(eFmt (eVar 7)), (eC (.str ":")), (eFmt (eVar 8))])))))]))))
def g_shown_sheet : List D → Option (D × List D) := gOf 9 [false]  d_shown_sheet
theorem sc_shown_sheet : FnScope ["sheet", "house", "number", "ended", "ties", "age", "words", "neighbour", "price"] ["sheet"] (defScope (top 27)) := ⟨rfl, rfl, rfl, by decide +kernel, rfl, by decide +kernel, by decide +kernel⟩
theorem ok_shown_sheet {f : Addr} {fd : FuncData} (F : FnP K "shown_sheet" (top 27) f fd) (Z : Zs K mg)  : FnOk P w K mg base CX0 1 f fd ["sheet"] (spD ⟨K, mg, Tb⟩ [false] .fz g_shown_sheet) := by
  refine okP F sc_shown_sheet (spD_len rfl) (fun cdv A outer s H vs Q E hr h => ⟨tS ⟨K, mg, Tb⟩ wh0 d_shown_sheet, ?_, body_of (N := ["sheet", "house", "number", "ended", "ties", "age", "words", "neighbour", "price"]) h⟩)
  exact (ds_cons (dS_unp (ts := [1, 2, 3, 4, 5]) (de_var 0) (dg_tup rfl (dgs_cons (dg_name 1 sc_shown_sheet.nd) (dgs_cons (dg_name 2 sc_shown_sheet.nd) (dgs_cons (dg_name 3 sc_shown_sheet.nd) (dgs_cons (dg_name 4 sc_shown_sheet.nd) (dgs_cons (dg_name 5 sc_shown_sheet.nd) dgs_nil))))) (takes_cons (takes_cons (takes_cons (takes_cons (takes_cons takes_nil)))))))
      (ds_cons (dS_set (i := 6) sc_shown_sheet.nd (de_new (de_lst (da_cons (do_ex (de_if (dt_val (de_var 3)) de_str de_str)) (da_cons (do_ex (de_callTy call_str_int ok_strI rfl Z.z_str (by decide +kernel) (da_cons (do_vr 1) da_nil))) (da_cons (do_ex (de_callTy call_str_int ok_strI rfl Z.z_str (by decide +kernel) (da_cons (do_vr 2) da_nil))) (da_cons (do_ex (de_callTy call_str_int ok_strI rfl Z.z_str (by decide +kernel) (da_cons (do_vr 5) da_nil))) da_nil)))))))
      (ds_one (dS_ret (de_strM PySem.F.slot_str_join PySem.F.type_str_join mt_join ok_join de_str (da_cons (do_ex (de_op op_adds ok_adds (do_vr 6) (do_ex (de_new (de_lc (own := [("neighbour", 7), ("price", 8)]) rfl sc_shown_sheet.nd (ts := [7, 8]) (by decide) (di_tup (de_var 4)) (blkOk_by (own := [("neighbour", 7), ("price", 8)]) (N := ["sheet", "house", "number", "ended", "ties", "age", "words", "neighbour", "price"]) (sc := (defScope (top 27))) (by decide +kernel)) (fun _ _ _ _ _ => (dg_tup rfl (dgs_cons (dg_name 7 sc_shown_sheet.nd) (dgs_cons (dg_name 8 sc_shown_sheet.nd) dgs_nil)) (takes_cons (takes_cons takes_nil)))) (fun _ _ _ _ _ => dts_nil) (fun _ _ _ _ _ => (de_js (fs := [(eFmt (eVar 7)), (eC (.str ":")), (eFmt (eVar 8))]) (.cons (de_fmt (de_var 7)) (.cons de_str (.cons (de_fmt (de_var 8)) .nil)))))))))) da_nil))))))
def d_tie_of : Sf := (sq (sSet 1 (opM gSplit (eVar 0) [(.ex (eC (.str ":")))])) (sq (sIf (bOr (bD (op2 gNe (.ex (opA gLen [(.vr 1)])) (.ex (eC (.int 2))))) (bNot (bD (eCall [false] g_are_figures [(.ex (eVar 1))])))) (sRet (eC .none)) sNx) (sRet (eTup [(.ex (opA gIntS [(.ex (op2 gIxs (.vr 1) (.ex (eC (.int 0)))))])), (.ex (opA gIntS [(.ex (op2 gIxs (.vr 1) (.ex (eC (.int 1)))))]))]))))
def g_tie_of : List D → Option (D × List D) := gOf 2 [false]  d_tie_of
theorem sc_tie_of : FnScope ["word", "parts"] ["word"] (defScope (top 28)) := ⟨rfl, rfl, rfl, by decide +kernel, rfl, by decide +kernel, by decide +kernel⟩
theorem ok_tie_of {f : Addr} {fd : FuncData} (F : FnP K "tie_of" (top 28) f fd) (Z : Zs K mg) (G_are_figures : Got P w K mg base 2 "are_figures" ["words"] (spD ⟨K, mg, Tb⟩ [false] .fz g_are_figures)) : FnOk P w K mg base CX0 3 f fd ["word"] (spD ⟨K, mg, Tb⟩ [false] .fz g_tie_of) := by
  refine okP F sc_tie_of (spD_len rfl) (fun cdv A outer s H vs Q E hr h => ⟨tS ⟨K, mg, Tb⟩ wh0 d_tie_of, ?_, body_of (N := ["word", "parts"]) h⟩)
  exact (ds_cons (dS_set (i := 1) sc_tie_of.nd (de_new (de_strMN PySem.F.slot_str_split PySem.F.type_str_split mt_split ok_split (de_var 0) (da_cons (do_ex de_str) da_nil))))
      (ds_cons (dS_if (PW.pt (dw_or (dt_cmp (op_nes hr.units) ok_ne (do_ex (de_callB call_len1 ok_len rfl Z.z_len (by decide +kernel) (da_cons (do_vr 1) da_nil))) (do_ex de_int) (nomark _)) (dw_or1 (dt_not (dt_val (de_callG G_are_figures hr rfl (da_cons (do_ex (de_var 1)) da_nil))))))) (ds_one (dS_ret de_none)) ds_nil)
      (ds_one (dS_ret (de_tup (da_cons (do_ex (de_callTy call_int_str ok_intS rfl Z.z_int (by decide +kernel) (da_cons (do_ex (de_ixs (units1 hr) (do_vr 1) (do_ex de_int) (fun _ _ => rfl))) da_nil))) (da_cons (do_ex (de_callTy call_int_str ok_intS rfl Z.z_int (by decide +kernel) (da_cons (do_ex (de_ixs (units1 hr) (do_vr 1) (do_ex de_int) (fun _ _ => rfl))) da_nil))) da_nil)))))))
def d_read_sheet : Sf := (sq (sDropX (eCallX [false] g_look_at_text [(.ex (eVar 0))])) (sq (sUnp (tgStarL 2 1 (tgsCons (tgName 1) (tgsCons (tgName 2) tgsNil))) (opM gSplit (eVar 0) [(.ex (eC (.str "\n")))])) (sq (sSet 3 (opM gSplit (eVar 1) [(.ex (eC (.str " ")))])) (sq (sSetN 5 (eLc [4] (tgName 4) (iL (eSlice gCut (.vr 3) (pAt (eC (.int 4))) pNo)) bTrue (eCall [false] g_tie_of [(.ex (eVar 4))]))) (sq (sIf (bOr (bD (op2 gLt (.ex (opA gLen [(.vr 3)])) (.ex (eC (.int 4))))) (bOr (bD (op2 (gInF true) (.ex (op2 gIxs (.vr 3) (.ex (eC (.int 0))))) (.ex (eTup [(.ex (eC (.str "sheet"))), (.ex (eC (.str "ended")))])))) (bOr (bNot (bD (eCall [false] g_are_figures [(.ex (eSlice gCut (.vr 3) (pAt (eC (.int 1))) (pAt (eC (.int 4)))))]))) (bD (op2 gIn (.ex (eC .none)) (.vr 5)))))) (sRaise "NoText" "row" (eC (.int 0))) sNx) (sq (sIf (bAnd (bD (op2 gEq (.ex (op2 gIxs (.vr 3) (.ex (eC (.int 0))))) (.ex (eC (.str "ended"))))) (bD (op2 gNe (.vr 5) (.ex (eLst []))))) (sRaise "NoText" "row" (eC (.int 0))) sNx) (sq (sIf (bD (op2 gNe (.vr 2) (.ex (eLst [])))) (sRaise "NoText" "row" (eC (.int 1))) sNx) (sq (sSet 6 (eTup [(.ex (opA gIntS [(.ex (op2 gIxs (.vr 3) (.ex (eC (.int 1)))))])), (.ex (opA gIntS [(.ex (op2 gIxs (.vr 3) (.ex (eC (.int 2)))))])), (.ex (op2 gEq (.ex (op2 gIxs (.vr 3) (.ex (eC (.int 0))))) (.ex (eC (.str "ended"))))), (.ex (opA gTuple [(.vr 5)])), (.ex (opA gIntS [(.ex (op2 gIxs (.vr 3) (.ex (eC (.int 3)))))]))])) (sq (sIf (bNot (bD (eCall [false] g_is_sheet [(.ex (eVar 6))]))) (sRaise "NoText" "row" (eC .none)) sNx) (sRet (eVar 6)))))))))))
def g_read_sheet : List D → Option ((D ⊕ Ex) × List D) := gOfX 7 [false]  d_read_sheet
theorem sc_read_sheet : FnScope ["text", "first", "rest", "words", "word", "ties", "found"] ["text"] (defScope (top 29)) := ⟨rfl, rfl, rfl, by decide +kernel, rfl, by decide +kernel, by decide +kernel⟩
theorem ok_read_sheet {f : Addr} {fd : FuncData} (F : FnP K "read_sheet" (top 29) f fd) (Z : Zs K mg) (G_look_at_text : GotX P w K mg base 3 "look_at_text" ["text"] (spX ⟨K, mg, Tb⟩ [false] .fz g_look_at_text)) (G_tie_of : Got P w K mg base 3 "tie_of" ["word"] (spD ⟨K, mg, Tb⟩ [false] .fz g_tie_of)) (G_is_sheet : Got P w K mg base 5 "is_sheet" ["thing"] (spD ⟨K, mg, Tb⟩ [false] .fz g_is_sheet)) (G_are_figures : Got P w K mg base 2 "are_figures" ["words"] (spD ⟨K, mg, Tb⟩ [false] .fz g_are_figures)) (E_NoText : GotE P w K mg base 1 "NoText" "row") : FnOk P w K mg base (L2.CX P w) 6 f fd ["text"] (spX ⟨K, mg, Tb⟩ [false] .fz g_read_sheet) := by
  refine okX F sc_read_sheet (spX_len rfl) (fun cdv A outer s H vs Q E hr h tk => ⟨tS ⟨K, mg, Tb⟩ ⟨fun cls dd _ H' => E cls dd H'⟩ d_read_sheet, ?_, bodyX_of (N := ["text", "first", "rest", "words", "word", "ties", "found"]) h⟩)
  exact (ds_cons (dS_dropX (de_callXG tk G_look_at_text hr rfl (da_cons (do_ex (de_var 0)) da_nil)))
      (ds_cons (dS_unp (ts := [1, 2]) (de_new (de_strMN PySem.F.slot_str_split PySem.F.type_str_split mt_split ok_split (de_var 0) (da_cons (do_ex de_str) da_nil))) (dg_starL (n := 2) (i := 1) rfl (dgs_cons (dg_name 1 sc_read_sheet.nd) (dgs_star (dg_name 2 sc_read_sheet.nd) dgs_nil))))
      (ds_cons (dS_set (i := 3) sc_read_sheet.nd (de_new (de_strMN PySem.F.slot_str_split PySem.F.type_str_split mt_split ok_split (de_var 1) (da_cons (do_ex de_str) da_nil))))
      (ds_cons (dS_setLc (i := 5) (own := [("word", 4)]) rfl sc_read_sheet.nd (ts := [4]) (by decide) (sw_true rfl rfl rfl (by decide +kernel)) (di_list (de_slice (do_vr 3) (dp_some de_int) dp_none)) (blkOk_by (own := [("word", 4)]) (N := ["text", "first", "rest", "words", "word", "ties", "found"]) (sc := (defScope (top 29))) (by decide +kernel)) (fun _ _ _ _ _ => (dg_name 4 sc_read_sheet.nd)) (fun _ _ _ _ _ => dts_nil) (fun _ _ _ _ _ => (de_callG G_tie_of hr rfl (da_cons (do_ex (de_var 4)) da_nil))))
      (ds_cons (dS_if (PW.pt (dw_or (dt_cmp op_lt ok_lt (do_ex (de_callB call_len1 ok_len rfl Z.z_len (by decide +kernel) (da_cons (do_vr 3) da_nil))) (do_ex de_int) (nomark _)) (dw_or (dt_cmp op_notIn_seq ok_inF (do_ex (de_ixs (units1 hr) (do_vr 3) (do_ex de_int) (fun _ _ => rfl))) (do_ex (de_tup (da_cons (do_ex de_str) (da_cons (do_ex de_str) da_nil)))) rfl) (dw_or (dt_not (dt_val (de_callG G_are_figures hr rfl (da_cons (do_ex (de_slice (do_vr 3) (dp_some de_int) (dp_some de_int))) da_nil)))) (dw_or1 (dt_cmp (op_ins (units65 hr)) ok_in (do_ex de_none) (do_vr 5) rfl)))))) (ds_one (dS_raiseG rfl tk E_NoText hr rfl de_int)) ds_nil)
      (ds_cons (dS_if (PW.pt (dw_and (dt_cmp (op_eqs hr.units) ok_eq (do_ex (de_ixs (units1 hr) (do_vr 3) (do_ex de_int) (fun _ _ => rfl))) (do_ex de_str) (nomark _)) (dw_and1 (dt_cmp (op_nes hr.units) ok_ne (do_vr 5) (do_ex (de_new (de_lst da_nil))) (nomark _))))) (ds_one (dS_raiseG rfl tk E_NoText hr rfl de_int)) ds_nil)
      (ds_cons (dS_if (dt_cmp (op_nes hr.units) ok_ne (do_vr 2) (do_ex (de_new (de_lst da_nil))) (nomark _)) (ds_one (dS_raiseG rfl tk E_NoText hr rfl de_int)) ds_nil)
      (ds_cons (dS_set (i := 6) sc_read_sheet.nd (de_tup (da_cons (do_ex (de_callTy call_int_str ok_intS rfl Z.z_int (by decide +kernel) (da_cons (do_ex (de_ixs (units1 hr) (do_vr 3) (do_ex de_int) (fun _ _ => rfl))) da_nil))) (da_cons (do_ex (de_callTy call_int_str ok_intS rfl Z.z_int (by decide +kernel) (da_cons (do_ex (de_ixs (units1 hr) (do_vr 3) (do_ex de_int) (fun _ _ => rfl))) da_nil))) (da_cons (do_ex (de_cmp (op_eqs hr.units) ok_eq (do_ex (de_ixs (units1 hr) (do_vr 3) (do_ex de_int) (fun _ _ => rfl))) (do_ex de_str) (nomark _))) (da_cons (do_ex (de_callTy call_tuple_of ok_tuple rfl Z.z_tuple (by decide +kernel) (da_cons (do_vr 5) da_nil))) (da_cons (do_ex (de_callTy call_int_str ok_intS rfl Z.z_int (by decide +kernel) (da_cons (do_ex (de_ixs (units1 hr) (do_vr 3) (do_ex de_int) (fun _ _ => rfl))) da_nil))) da_nil)))))))
      (ds_cons (dS_if (dt_not (dt_val (de_callG G_is_sheet hr rfl (da_cons (do_ex (de_var 6)) da_nil)))) (ds_one (dS_raiseG rfl tk E_NoText hr rfl de_none)) ds_nil)
      (ds_one (dS_ret (de_var 6))))))))))))
def d_shown_deed : Sf := (sq (sUnp (tgStarO 1 2) (eVar 0)) (sq (sIf (bD (op2 gEq (.vr 1) (.ex (eC (.str "road"))))) (sSetIx 2 (eIf (bD (op2 gIxs (.vr 2) (.ex (eC (.int 2))))) (eC (.str "open")) (eC (.str "shut"))) (.ex (eC (.int 2)))) sNx) (sRet (opM gJoin (eC (.str " ")) [(.ex (op2 gAdd (.ex (eLst [(.ex (eVar 1))])) (.ex (eLc [3] (tgName 3) (iL (eVar 2)) bTrue (opA gStrS [(.vr 3)])))))]))))
def g_shown_deed : List D → Option (D × List D) := gOf 4 [false]  d_shown_deed
theorem sc_shown_deed : FnScope ["deed", "word", "given", "one"] ["deed"] (defScope (top 30)) := ⟨rfl, rfl, rfl, by decide +kernel, rfl, by decide +kernel, by decide +kernel⟩
theorem ok_shown_deed {f : Addr} {fd : FuncData} (F : FnP K "shown_deed" (top 30) f fd) (Z : Zs K mg)  : FnOk P w K mg base CX0 1 f fd ["deed"] (spD ⟨K, mg, Tb⟩ [false] .fz g_shown_deed) := by
  refine okP F sc_shown_deed (spD_len rfl) (fun cdv A outer s H vs Q E hr h => ⟨tS ⟨K, mg, Tb⟩ wh0 d_shown_deed, ?_, body_of (N := ["deed", "word", "given", "one"]) h⟩)
  exact (ds_cons (dS_unp (ts := [1, 2]) (de_var 0) (dg_starO 1 2 rfl sc_shown_deed.nd))
      (ds_cons (dS_if (dt_cmp (op_eqs hr.units) ok_eq (do_vr 1) (do_ex de_str) (nomark _)) (ds_one (dS_setIx (i := 2) (de_if (dt_val (de_ixs (units1 hr) (do_vr 2) (do_ex de_int) (fun _ _ => rfl))) de_str de_str) (do_ex de_int))) ds_nil)
      (ds_one (dS_ret (de_strM PySem.F.slot_str_join PySem.F.type_str_join mt_join ok_join de_str (da_cons (do_ex (de_op op_adds ok_adds (do_ex (de_new (de_lst (da_cons (do_ex (de_var 1)) da_nil)))) (do_ex (de_new (de_lc (own := [("one", 3)]) rfl sc_shown_deed.nd (ts := [3]) (by decide) (di_list (de_var 2)) (blkOk_by (own := [("one", 3)]) (N := ["deed", "word", "given", "one"]) (sc := (defScope (top 30))) (by decide +kernel)) (fun _ _ _ _ _ => (dg_name 3 sc_shown_deed.nd)) (fun _ _ _ _ _ => dts_nil) (fun _ _ _ _ _ => (de_callTy call_str_any ok_strS rfl Z.z_str (by decide +kernel) (da_cons (do_vr 3) da_nil)))))))) da_nil))))))
def d_shown_history : Sf := (sRet (opM gJoin (eC (.str "\n")) [(.ex (eLc [1] (tgName 1) (iL (eVar 0)) bTrue (eCall [false] g_shown_deed [(.ex (eVar 1))])))]))
def g_shown_history : List D → Option (D × List D) := gOf 2 [false]  d_shown_history
theorem sc_shown_history : FnScope ["history", "deed"] ["history"] (defScope (top 31)) := ⟨rfl, rfl, rfl, by decide +kernel, rfl, by decide +kernel, by decide +kernel⟩
theorem ok_shown_history {f : Addr} {fd : FuncData} (F : FnP K "shown_history" (top 31) f fd) (Z : Zs K mg) (G_shown_deed : Got P w K mg base 1 "shown_deed" ["deed"] (spD ⟨K, mg, Tb⟩ [false] .fz g_shown_deed)) : FnOk P w K mg base CX0 2 f fd ["history"] (spD ⟨K, mg, Tb⟩ [false] .fz g_shown_history) := by
  refine okP F sc_shown_history (spD_len rfl) (fun cdv A outer s H vs Q E hr h => ⟨tS ⟨K, mg, Tb⟩ wh0 d_shown_history, ?_, body_of (N := ["history", "deed"]) h⟩)
  exact (ds_one (dS_ret (de_strM PySem.F.slot_str_join PySem.F.type_str_join mt_join ok_join de_str (da_cons (do_ex (de_new (de_lc (own := [("deed", 1)]) rfl sc_shown_history.nd (ts := [1]) (by decide) (di_list (de_var 0)) (blkOk_by (own := [("deed", 1)]) (N := ["history", "deed"]) (sc := (defScope (top 31))) (by decide +kernel)) (fun _ _ _ _ _ => (dg_name 1 sc_shown_history.nd)) (fun _ _ _ _ _ => dts_nil) (fun _ _ _ _ _ => (de_callG G_shown_deed hr rfl (da_cons (do_ex (de_var 1)) da_nil)))))) da_nil))))
def d_is_given : Sf := (sq (sIf (bD (op2 gEq (.vr 0) (.ex (eC (.str "o"))))) (sRet (op2 (gInF false) (.vr 1) (.ex (eTup [(.ex (eC (.str "open"))), (.ex (eC (.str "shut")))])))) sNx) (sRet (eCall [false] g_is_figures [(.ex (eVar 1))])))
def g_is_given : List D → Option (D × List D) := gOf 2 [false, false]  d_is_given
theorem sc_is_given : FnScope ["sort", "word"] ["sort", "word"] (defScope (top 32)) := ⟨rfl, rfl, rfl, by decide +kernel, rfl, by decide +kernel, by decide +kernel⟩
theorem ok_is_given {f : Addr} {fd : FuncData} (F : FnP K "is_given" (top 32) f fd) (Z : Zs K mg) (G_is_figures : Got P w K mg base 1 "is_figures" ["word"] (spD ⟨K, mg, Tb⟩ [false] .fz g_is_figures)) : FnOk P w K mg base CX0 2 f fd ["sort", "word"] (spD ⟨K, mg, Tb⟩ [false, false] .fz g_is_given) := by
  refine okP F sc_is_given (spD_len rfl) (fun cdv A outer s H vs Q E hr h => ⟨tS ⟨K, mg, Tb⟩ wh0 d_is_given, ?_, body_of (N := ["sort", "word"]) h⟩)
  exact (ds_cons (dS_if (dt_cmp (op_eqs hr.units) ok_eq (do_vr 0) (do_ex de_str) (nomark _)) (ds_one (dS_ret (de_cmp op_in_seq ok_inF (do_vr 1) (do_ex (de_tup (da_cons (do_ex de_str) (da_cons (do_ex de_str) da_nil)))) rfl))) ds_nil)
      (ds_one (dS_ret (de_callG G_is_figures hr rfl (da_cons (do_ex (de_var 1)) da_nil)))))
def d_deed_of : Sf := (sq (sUnp (tgStarL 2 1 (tgsCons (tgName 1) (tgsCons (tgName 2) tgsNil))) (opM gSplit (eVar 0) [(.ex (eC (.str " ")))])) (sq (sIf (bOr (bD (op1 (gInG kv_FORMS true) (.vr 1))) (bD (op2 gNe (.ex (opA gLen [(.vr 2)])) (.ex (opA gLen [(.ex (op1 (gIxG kv_FORMS) (.vr 1)))]))))) (sRet (eC .none)) sNx) (sq (sIf (bNot (bD (opA gAll [(.ex (eLc [3, 4] (tgTup (tgsCons (tgName 3) (tgsCons (tgName 4) tgsNil))) (iZipSL true (op1 (gIxG kv_FORMS) (.vr 1)) (eVar 2)) bTrue (eCall [false, false] g_is_given [(.ex (eVar 3)), (.ex (eVar 4))])))]))) (sRet (eC .none)) sNx) (sRet (opA gTuple [(.ex (op2 gAdd (.ex (eLst [(.ex (eVar 1))])) (.ex (eLc [3, 4] (tgTup (tgsCons (tgName 3) (tgsCons (tgName 4) tgsNil))) (iZipSL false (op1 (gIxG kv_FORMS) (.vr 1)) (eVar 2)) bTrue (eIf (bD (op2 gEq (.vr 3) (.ex (eC (.str "o"))))) (op2 gEq (.vr 4) (.ex (eC (.str "open")))) (opA gIntS [(.vr 4)]))))))])))))
def g_deed_of : List D → Option (D × List D) := gOf 5 [false]  d_deed_of
theorem sc_deed_of : FnScope ["row", "word", "given", "sort", "one"] ["row"] (defScope (top 33)) := ⟨rfl, rfl, rfl, by decide +kernel, rfl, by decide +kernel, by decide +kernel⟩
theorem ok_deed_of {f : Addr} {fd : FuncData} (F : FnP K "deed_of" (top 33) f fd) (Z : Zs K mg) (G_is_given : Got P w K mg base 2 "is_given" ["sort", "word"] (spD ⟨K, mg, Tb⟩ [false, false] .fz g_is_given)) (GD_FORMS : GDct K w mg "FORMS" kv_FORMS) : FnOk P w K mg base CX0 3 f fd ["row"] (spD ⟨K, mg, Tb⟩ [false] .fz g_deed_of) := by
  refine okP F sc_deed_of (spD_len rfl) (fun cdv A outer s H vs Q E hr h => ⟨tS ⟨K, mg, Tb⟩ wh0 d_deed_of, ?_, body_of (N := ["row", "word", "given", "sort", "one"]) h⟩)
  exact (ds_cons (dS_unp (ts := [1, 2]) (de_new (de_strMN PySem.F.slot_str_split PySem.F.type_str_split mt_split ok_split (de_var 0) (da_cons (do_ex de_str) da_nil))) (dg_starL (n := 2) (i := 1) rfl (dgs_cons (dg_name 1 sc_deed_of.nd) (dgs_star (dg_name 2 sc_deed_of.nd) dgs_nil))))
      (ds_cons (dS_if (PW.pt (dw_or (dt_notInG GD_FORMS rfl (do_vr 1)) (dw_or1 (dt_cmp (op_nes hr.units) ok_ne (do_ex (de_callB call_len1 ok_len rfl Z.z_len (by decide +kernel) (da_cons (do_vr 2) da_nil))) (do_ex (de_callB call_len1 ok_len rfl Z.z_len (by decide +kernel) (da_cons (do_ex (de_ixG GD_FORMS rfl (do_vr 1) (fun _ _ => rfl))) da_nil))) (nomark _))))) (ds_one (dS_ret de_none)) ds_nil)
      (ds_cons (dS_if (dt_not (dt_val (de_callB (cr_all rfl) ok_all rfl Z.z_all (by decide +kernel) (da_cons (do_ex (de_new (de_lc (own := [("sort", 3), ("one", 4)]) rfl sc_deed_of.nd (ts := [3, 4]) (by decide) (di_zipSLs rfl Z.z_zip (de_ixG GD_FORMS rfl (do_vr 1) (fun _ _ => rfl)) (de_var 2)) (blkOk_by (own := [("sort", 3), ("one", 4)]) (N := ["row", "word", "given", "sort", "one"]) (sc := (defScope (top 33))) (by decide +kernel)) (fun _ _ _ _ _ => (dg_tup rfl (dgs_cons (dg_name 3 sc_deed_of.nd) (dgs_cons (dg_name 4 sc_deed_of.nd) dgs_nil)) (takes_cons (takes_cons takes_nil)))) (fun _ _ _ _ _ => dts_nil) (fun _ _ _ _ _ => (de_callG G_is_given hr rfl (da_cons (do_ex (de_var 3)) (da_cons (do_ex (de_var 4)) da_nil))))))) da_nil)))) (ds_one (dS_ret de_none)) ds_nil)
      (ds_one (dS_ret (de_callTy call_tuple_of ok_tuple rfl Z.z_tuple (by decide +kernel) (da_cons (do_ex (de_op op_adds ok_adds (do_ex (de_new (de_lst (da_cons (do_ex (de_var 1)) da_nil)))) (do_ex (de_new (de_lc (own := [("sort", 3), ("one", 4)]) rfl sc_deed_of.nd (ts := [3, 4]) (by decide) (di_zipSL rfl Z.z_zip (de_ixG GD_FORMS rfl (do_vr 1) (fun _ _ => rfl)) (de_var 2)) (blkOk_by (own := [("sort", 3), ("one", 4)]) (N := ["row", "word", "given", "sort", "one"]) (sc := (defScope (top 33))) (by decide +kernel)) (fun _ _ _ _ _ => (dg_tup rfl (dgs_cons (dg_name 3 sc_deed_of.nd) (dgs_cons (dg_name 4 sc_deed_of.nd) dgs_nil)) (takes_cons (takes_cons takes_nil)))) (fun _ _ _ _ _ => dts_nil) (fun _ _ _ _ _ => (de_if (dt_cmp (op_eqs hr.units) ok_eq (do_vr 3) (do_ex de_str) (nomark _)) (de_cmp (op_eqs hr.units) ok_eq (do_vr 4) (do_ex de_str) (nomark _)) (de_callTy call_int_str ok_intS rfl Z.z_int (by decide +kernel) (da_cons (do_vr 4) da_nil))))))))) da_nil)))))))
def d_read_history : Sf := (sq (sDropX (eCallX [false] g_look_at_text [(.ex (eVar 0))])) (sq (sIf (bD (op2 gEq (.vr 0) (.ex (eC (.str ""))))) (sRetN (eLst [])) sNx) (sq (sSetN 1 (eLst [])) (sq (sFor (tgTup (tgsCons (tgName 2) (tgsCons (tgName 3) tgsNil))) (iEnL (opM gSplit (eVar 0) [(.ex (eC (.str "\n")))])) (sq (sSet 4 (eCall [false] g_deed_of [(.ex (eVar 3))])) (sq (sIf (bD (op1 (gIsN false) (.vr 4))) (sRaise "NoText" "row" (eVar 2)) sNx) (sDrop (eMeth 1 gAppend [(.ex (eVar 4))]))))) (sRetO 1)))))
def g_read_history : List D → Option ((D ⊕ Ex) × List D) := gOfXN 5 [false]  d_read_history
theorem sc_read_history : FnScope ["text", "found", "row", "line", "deed"] ["text"] (defScope (top 34)) := ⟨rfl, rfl, rfl, by decide +kernel, rfl, by decide +kernel, by decide +kernel⟩
theorem ok_read_history {f : Addr} {fd : FuncData} (F : FnP K "read_history" (top 34) f fd) (Z : Zs K mg) (G_look_at_text : GotX P w K mg base 3 "look_at_text" ["text"] (spX ⟨K, mg, Tb⟩ [false] .fz g_look_at_text)) (G_deed_of : Got P w K mg base 3 "deed_of" ["row"] (spD ⟨K, mg, Tb⟩ [false] .fz g_deed_of)) (E_NoText : GotE P w K mg base 1 "NoText" "row") : FnOk P w K mg base (L2.CX P w) 4 f fd ["text"] (spX ⟨K, mg, Tb⟩ [false] .nw g_read_history) := by
  refine okX F sc_read_history (spX_len rfl) (fun cdv A outer s H vs Q E hr h tk => ⟨tS ⟨K, mg, Tb⟩ ⟨fun cls dd _ H' => E cls dd H'⟩ d_read_history, ?_, bodyXN_of (N := ["text", "found", "row", "line", "deed"]) h⟩)
  exact (ds_cons (dS_dropX (de_callXG tk G_look_at_text hr rfl (da_cons (do_ex (de_var 0)) da_nil)))
      (ds_cons (dS_if (dt_cmp (op_eqs hr.units) ok_eq (do_vr 0) (do_ex de_str) (nomark _)) (ds_one (dS_retN (de_lst da_nil))) ds_nil)
      (ds_cons (dS_setN (i := 1) sc_read_history.nd (de_lst da_nil))
      (ds_cons (dS_for (ts := [2, 3]) PassesOwn.leaving rfl (di_enumL rfl Z.z_enumerate (de_new (de_strMN PySem.F.slot_str_split PySem.F.type_str_split mt_split ok_split (de_var 0) (da_cons (do_ex de_str) da_nil)))) (dg_tup rfl (dgs_cons (dg_name 2 sc_read_history.nd) (dgs_cons (dg_name 3 sc_read_history.nd) dgs_nil)) (takes_cons (takes_cons takes_nil))) (ds_cons (dS_set (i := 4) sc_read_history.nd (de_callG G_deed_of hr rfl (da_cons (do_ex (de_var 3)) da_nil)))
      (ds_cons (dS_if (dt_isN (do_vr 4)) (ds_one (dS_raiseG rfl tk E_NoText hr rfl (de_var 2))) ds_nil)
      (ds_one (dS_drop (de_append (i := 1) (da_cons (do_ex (de_var 4)) da_nil)))))))
      (ds_one (dS_retO 1))))))
def d__law_cell_at : Sf := (sq (sIf (bD (op2 gLt (.vr 1) (.ex (opA gLen [(.vr 0)])))) (sRet (op2 gIxs (.vr 0) (.vr 1))) sNx) (sRet (eC (.int 0))))
def g__law_cell_at : List D → Option (D × List D) := gOf 2 [false, false]  d__law_cell_at
theorem sc__law_cell_at : FnScope ["_law_script", "_law_k"] ["_law_script", "_law_k"] (defScope (top 36)) := ⟨rfl, rfl, rfl, by decide +kernel, rfl, by decide +kernel, by decide +kernel⟩
theorem ok__law_cell_at {f : Addr} {fd : FuncData} (F : FnP K "_law_cell_at" (top 36) f fd) (Z : Zs K mg)  : FnOk P w K mg base CX0 1 f fd ["_law_script", "_law_k"] (spD ⟨K, mg, Tb⟩ [false, false] .fz g__law_cell_at) := by
  refine okP F sc__law_cell_at (spD_len rfl) (fun cdv A outer s H vs Q E hr h => ⟨tS ⟨K, mg, Tb⟩ wh0 d__law_cell_at, ?_, body_of (N := ["_law_script", "_law_k"]) h⟩)
  exact (ds_cons (dS_if (dt_cmp op_lt ok_lt (do_vr 1) (do_ex (de_callB call_len1 ok_len rfl Z.z_len (by decide +kernel) (da_cons (do_vr 0) da_nil))) (nomark _)) (ds_one (dS_ret (de_ixs (units1 hr) (do_vr 0) (do_vr 1) (fun _ _ => rfl)))) ds_nil)
      (ds_one (dS_ret de_int)))
def d__law_pool : Sf := (sq (sSet 2 (eCall [false, false] g__law_cell_at [(.ex (eVar 0)), (.ex (eVar 1))])) (sq (sSet 3 (op2 gMod (.ex (op2 gMuls (.ex (op2 gAdd (.ex (op2 gAdd (.ex (op2 gMod (.vr 2) (.ex (eC (.int 2147483629))))) (.ex (op2 gMuls (.ex (op2 gMuls (.ex (eC (.int 7919))) (.vr 1))) (.vr 1))))) (.ex (eC (.int 1))))) (.ex (eC (.int 48271))))) (.ex (eC (.int 2147483647))))) (sq (sIf (bD (op2 gLt (.vr 2) (.ex (op2 gPow (.ex (eC (.int 10))) (.ex (eC (.int 18))))))) (sSet 2 (eC (.int 0))) sNx) (sRetN (eLst [(.ex (eVar 2)), (.ex (op2 gMod (.ex (op2 gMuls (.vr 3) (.vr 3))) (.ex (eC (.int 2147483629)))))])))))
def g__law_pool : List D → Option (D × List D) := gOfN 4 [false, false]  d__law_pool
theorem sc__law_pool : FnScope ["_law_script", "_law_k", "_law_cell", "_law_seed"] ["_law_script", "_law_k"] (defScope (top 37)) := ⟨rfl, rfl, rfl, by decide +kernel, rfl, by decide +kernel, by decide +kernel⟩
theorem ok__law_pool {f : Addr} {fd : FuncData} (F : FnP K "_law_pool" (top 37) f fd) (Z : Zs K mg) (G__law_cell_at : Got P w K mg base 1 "_law_cell_at" ["_law_script", "_law_k"] (spD ⟨K, mg, Tb⟩ [false, false] .fz g__law_cell_at)) : FnOk P w K mg base CX0 2 f fd ["_law_script", "_law_k"] (spD ⟨K, mg, Tb⟩ [false, false] .nw g__law_pool) := by
  refine okP F sc__law_pool (spD_len rfl) (fun cdv A outer s H vs Q E hr h => ⟨tS ⟨K, mg, Tb⟩ wh0 d__law_pool, ?_, bodyN_of (N := ["_law_script", "_law_k", "_law_cell", "_law_seed"]) h⟩)
  exact (ds_cons (dS_set (i := 2) sc__law_pool.nd (de_callG G__law_cell_at hr rfl (da_cons (do_ex (de_var 0)) (da_cons (do_ex (de_var 1)) da_nil))))
      (ds_cons (dS_set (i := 3) sc__law_pool.nd (de_op op_mod ok_mod (do_ex (de_op op_muls ok_muls (do_ex (de_op op_adds ok_adds (do_ex (de_op op_adds ok_adds (do_ex (de_op op_mod ok_mod (do_vr 2) (do_ex de_int))) (do_ex (de_op op_muls ok_muls (do_ex (de_op op_muls ok_muls (do_ex de_int) (do_vr 1))) (do_vr 1))))) (do_ex de_int))) (do_ex de_int))) (do_ex de_int)))
      (ds_cons (dS_if (dt_cmp op_lt ok_lt (do_vr 2) (do_ex (de_op op_pow ok_pow (do_ex de_int) (do_ex de_int))) (nomark _)) (ds_one (dS_set (i := 2) sc__law_pool.nd de_int)) ds_nil)
      (ds_one (dS_retN (de_lst (da_cons (do_ex (de_var 2)) (da_cons (do_ex (de_op op_mod ok_mod (do_ex (de_op op_muls ok_muls (do_vr 3) (do_vr 3))) (do_ex de_int))) da_nil))))))))
def d__law_take : Sf := (sq (sIf (bD (op2 gGt (.ex (op2 gIxs (.vr 0) (.ex (eC (.int 0))))) (.ex (eC (.int 0))))) (sq (sSet 2 (op2 gMod (.ex (op2 gIxs (.vr 0) (.ex (eC (.int 0))))) (.vr 1))) (sq (sSetIx 0 (op2 gDiv (.ex (op2 gIxs (.vr 0) (.ex (eC (.int 0))))) (.vr 1)) (.ex (eC (.int 0)))) (sRet (eVar 2)))) sNx) (sq (sSetIx 0 (op2 gMod (.ex (op2 gAdd (.ex (op2 gMuls (.ex (op2 gIxs (.vr 0) (.ex (eC (.int 1))))) (.ex (eC (.int 48271))))) (.ex (eC (.int 11))))) (.ex (eC (.int 2147483647)))) (.ex (eC (.int 1)))) (sRet (op2 gMod (.ex (op2 gDiv (.ex (op2 gMod (.ex (op2 gMuls (.ex (op2 gIxs (.vr 0) (.ex (eC (.int 1))))) (.ex (op2 gIxs (.vr 0) (.ex (eC (.int 1))))))) (.ex (eC (.int 2147483629))))) (.ex (eC (.int 64))))) (.vr 1)))))
def g__law_take : List D → Option (D × List D) := gOf 3 [true, false]  d__law_take
theorem sc__law_take : FnScope ["_law_pool_here", "_law_many", "_law_found"] ["_law_pool_here", "_law_many"] (defScope (top 38)) := ⟨rfl, rfl, rfl, by decide +kernel, rfl, by decide +kernel, by decide +kernel⟩
theorem ok__law_take {f : Addr} {fd : FuncData} (F : FnP K "_law_take" (top 38) f fd) (Z : Zs K mg)  : FnOk P w K mg base CX0 1 f fd ["_law_pool_here", "_law_many"] (spD ⟨K, mg, Tb⟩ [true, false] .fz g__law_take) := by
  refine okP F sc__law_take (spD_len rfl) (fun cdv A outer s H vs Q E hr h => ⟨tS ⟨K, mg, Tb⟩ wh0 d__law_take, ?_, body_of (N := ["_law_pool_here", "_law_many", "_law_found"]) h⟩)
  exact (ds_cons (dS_if (dt_cmp op_gt ok_gt (do_ex (de_ixs (units1 hr) (do_vr 0) (do_ex de_int) (fun _ _ => rfl))) (do_ex de_int) (nomark _)) (ds_cons (dS_set (i := 2) sc__law_take.nd (de_op op_mod ok_mod (do_ex (de_ixs (units1 hr) (do_vr 0) (do_ex de_int) (fun _ _ => rfl))) (do_vr 1)))
      (ds_cons (dS_setIx (i := 0) (de_op op_fdivW ok_div (do_ex (de_ixs (units1 hr) (do_vr 0) (do_ex de_int) (fun _ _ => rfl))) (do_vr 1)) (do_ex de_int))
      (ds_one (dS_ret (de_var 2))))) ds_nil)
      (ds_cons (dS_setIx (i := 0) (de_op op_mod ok_mod (do_ex (de_op op_adds ok_adds (do_ex (de_op op_muls ok_muls (do_ex (de_ixs (units1 hr) (do_vr 0) (do_ex de_int) (fun _ _ => rfl))) (do_ex de_int))) (do_ex de_int))) (do_ex de_int)) (do_ex de_int))
      (ds_one (dS_ret (de_op op_mod ok_mod (do_ex (de_op op_fdivW ok_div (do_ex (de_op op_mod ok_mod (do_ex (de_op op_muls ok_muls (do_ex (de_ixs (units1 hr) (do_vr 0) (do_ex de_int) (fun _ _ => rfl))) (do_ex (de_ixs (units1 hr) (do_vr 0) (do_ex de_int) (fun _ _ => rfl))))) (do_ex de_int))) (do_ex de_int))) (do_vr 1))))))
def d__law_price : Sf := (sRet (op2 gIxs (.ex (eLst [(.ex (eC (.int 1))), (.ex (eC (.int 1))), (.ex (eC (.int 2))), (.ex (eC (.int 3))), (.ex (op2 gAdd (.ex (eC (.int 1))) (.ex (eCall [true, false] g__law_take [(.vr 0), (.ex (eC (.int 9)))])))), (.ex (op2 gAdd (.ex (eC (.int 1))) (.ex (eCall [true, false] g__law_take [(.vr 0), (.ex (eC (.int 99)))]))))])) (.ex (eCall [true, false] g__law_take [(.vr 0), (.ex (eC (.int 6)))]))))
def g__law_price : List D → Option (D × List D) := gOf 1 [true]  d__law_price
theorem sc__law_price : FnScope ["_law_pool_here"] ["_law_pool_here"] (defScope (top 39)) := ⟨rfl, rfl, rfl, by decide +kernel, rfl, by decide +kernel, by decide +kernel⟩
theorem ok__law_price {f : Addr} {fd : FuncData} (F : FnP K "_law_price" (top 39) f fd) (Z : Zs K mg) (G__law_take : Got P w K mg base 1 "_law_take" ["_law_pool_here", "_law_many"] (spD ⟨K, mg, Tb⟩ [true, false] .fz g__law_take)) : FnOk P w K mg base CX0 2 f fd ["_law_pool_here"] (spD ⟨K, mg, Tb⟩ [true] .fz g__law_price) := by
  refine okP F sc__law_price (spD_len rfl) (fun cdv A outer s H vs Q E hr h => ⟨tS ⟨K, mg, Tb⟩ wh0 d__law_price, ?_, body_of (N := ["_law_pool_here"]) h⟩)
  exact (ds_one (dS_ret (de_ixs (units1 hr) (do_ex (de_new (de_lst (da_cons (do_ex de_int) (da_cons (do_ex de_int) (da_cons (do_ex de_int) (da_cons (do_ex de_int) (da_cons (do_ex (de_op op_adds ok_adds (do_ex de_int) (do_ex (de_callG G__law_take hr rfl (da_cons (do_vr 0) (da_cons (do_ex de_int) da_nil)))))) (da_cons (do_ex (de_op op_adds ok_adds (do_ex de_int) (do_ex (de_callG G__law_take hr rfl (da_cons (do_vr 0) (da_cons (do_ex de_int) da_nil)))))) da_nil))))))))) (do_ex (de_callG G__law_take hr rfl (da_cons (do_vr 0) (da_cons (do_ex de_int) da_nil)))) (fun _ _ => rfl))))
def d__law_web : Sf := (sq (sSet 2 (op2 gAdd (.ex (eC (.int 1))) (.ex (eCall [true, false] g__law_take [(.vr 0), (.ex (eVar 1))])))) (sq (sSetN 3 (eLst [])) (sq (sFor (tgName 4) (iR1 (.vr 2)) (sFor (tgName 5) (iR2 (.ex (op2 gAdd (.vr 4) (.ex (eC (.int 1))))) (.vr 2)) (sIf (bAnd (bD (op2 gLt (.ex (opA gLen [(.vr 3)])) (.ex (eC (.int 20))))) (bD (op2 gEq (.ex (eCall [true, false] g__law_take [(.vr 0), (.ex (op2 gIxs (.ex (eLst [(.ex (eC (.int 2))), (.ex (eC (.int 3)))])) (.ex (eCall [true, false] g__law_take [(.vr 0), (.ex (eC (.int 2)))]))))])) (.ex (eC (.int 0)))))) (sDrop (eMeth 3 gInsert [(.ex (eCall [true, false] g__law_take [(.vr 0), (.ex (op2 gAdd (.ex (opA gLen [(.vr 3)])) (.ex (eC (.int 1)))))])), (.ex (eTup [(.ex (eVar 4)), (.ex (eVar 5)), (.ex (eCall [true] g__law_price [(.vr 0)])), (.ex (eCall [true] g__law_price [(.vr 0)]))]))])) sNx))) (sRet (eTup [(.ex (eVar 2)), (.ex (eVar 3))])))))
def g__law_web : List D → Option (D × List D) := gOf 6 [true, false]  d__law_web
theorem sc__law_web : FnScope ["_law_pool_here", "_law_most", "_law_many", "_law_ties", "_law_one", "_law_other"] ["_law_pool_here", "_law_most"] (defScope (top 40)) := ⟨rfl, rfl, rfl, by decide +kernel, rfl, by decide +kernel, by decide +kernel⟩
theorem ok__law_web {f : Addr} {fd : FuncData} (F : FnP K "_law_web" (top 40) f fd) (Z : Zs K mg) (G__law_take : Got P w K mg base 1 "_law_take" ["_law_pool_here", "_law_many"] (spD ⟨K, mg, Tb⟩ [true, false] .fz g__law_take)) (G__law_price : Got P w K mg base 2 "_law_price" ["_law_pool_here"] (spD ⟨K, mg, Tb⟩ [true] .fz g__law_price)) : FnOk P w K mg base CX0 3 f fd ["_law_pool_here", "_law_most"] (spD ⟨K, mg, Tb⟩ [true, false] .fz g__law_web) := by
  refine okP F sc__law_web (spD_len rfl) (fun cdv A outer s H vs Q E hr h => ⟨tS ⟨K, mg, Tb⟩ wh0 d__law_web, ?_, body_of (N := ["_law_pool_here", "_law_most", "_law_many", "_law_ties", "_law_one", "_law_other"]) h⟩)
  exact (ds_cons (dS_set (i := 2) sc__law_web.nd (de_op op_adds ok_adds (do_ex de_int) (do_ex (de_callG G__law_take hr rfl (da_cons (do_vr 0) (da_cons (do_ex (de_var 1)) da_nil))))))
      (ds_cons (dS_setN (i := 3) sc__law_web.nd (de_lst da_nil))
      (ds_cons (dS_for (ts := [4]) PassesOwn.never rfl (di_range1 rfl Z.z_range (do_vr 2)) (dg_name 4 sc__law_web.nd) (ds_one (dS_for (ts := [5]) PassesOwn.never rfl (di_range2 rfl Z.z_range (do_ex (de_op op_adds ok_adds (do_vr 4) (do_ex de_int))) (do_vr 2)) (dg_name 5 sc__law_web.nd) (ds_one (dS_if (PW.pt (dw_and (dt_cmp op_lt ok_lt (do_ex (de_callB call_len1 ok_len rfl Z.z_len (by decide +kernel) (da_cons (do_vr 3) da_nil))) (do_ex de_int) (nomark _)) (dw_and1 (dt_cmp (op_eqs hr.units) ok_eq (do_ex (de_callG G__law_take hr rfl (da_cons (do_vr 0) (da_cons (do_ex (de_ixs (units1 hr) (do_ex (de_new (de_lst (da_cons (do_ex de_int) (da_cons (do_ex de_int) da_nil))))) (do_ex (de_callG G__law_take hr rfl (da_cons (do_vr 0) (da_cons (do_ex de_int) da_nil)))) (fun _ _ => rfl))) da_nil)))) (do_ex de_int) (nomark _))))) (ds_one (dS_drop (de_insert (i := 3) (da_cons (do_ex (de_callG G__law_take hr rfl (da_cons (do_vr 0) (da_cons (do_ex (de_op op_adds ok_adds (do_ex (de_callB call_len1 ok_len rfl Z.z_len (by decide +kernel) (da_cons (do_vr 3) da_nil))) (do_ex de_int))) da_nil)))) (da_cons (do_ex (de_tup (da_cons (do_ex (de_var 4)) (da_cons (do_ex (de_var 5)) (da_cons (do_ex (de_callG G__law_price hr rfl (da_cons (do_vr 0) da_nil))) (da_cons (do_ex (de_callG G__law_price hr rfl (da_cons (do_vr 0) da_nil))) da_nil)))))) da_nil))))) ds_nil)))))
      (ds_one (dS_ret (de_tup (da_cons (do_ex (de_var 2)) (da_cons (do_ex (de_var 3)) da_nil))))))))
def d__law_drawn_sheet : Sf := (sq (sSet 1 (eCall [true, false] g__law_take [(.vr 0), (.ex (eC (.int 8)))])) (sq (sSet 2 (op2 gEq (.ex (eCall [true, false] g__law_take [(.vr 0), (.ex (eC (.int 4)))])) (.ex (eC (.int 0))))) (sq (sSetN 4 (eLc [3] (tgName 3) (iR1 (.ex (eC (.int 8)))) (bAnd (bD (op2 gNe (.vr 3) (.vr 1))) (bAnd (bNot (bD (eVar 2))) (bD (op2 gEq (.ex (eCall [true, false] g__law_take [(.vr 0), (.ex (eC (.int 3)))])) (.ex (eC (.int 0))))))) (eTup [(.ex (eVar 3)), (.ex (eCall [true] g__law_price [(.vr 0)]))]))) (sRet (eTup [(.ex (eVar 1)), (.ex (op2 gAdd (.ex (eC (.int 1))) (.ex (eCall [true, false] g__law_take [(.vr 0), (.ex (op2 gIxs (.ex (eLst [(.ex (eC (.int 9))), (.ex (op2 gSub (.ex (op2 gPow (.ex (eC (.int 10))) (.ex (eC (.int 9))))) (.ex (eC (.int 1)))))])) (.ex (eCall [true, false] g__law_take [(.vr 0), (.ex (eC (.int 2)))]))))])))), (.ex (eVar 2)), (.ex (opA gTuple [(.vr 4)])), (.ex (eCall [true, false] g__law_take [(.vr 0), (.ex (eC (.int 41)))]))])))))
def g__law_drawn_sheet : List D → Option (D × List D) := gOf 5 [true]  d__law_drawn_sheet
theorem sc__law_drawn_sheet : FnScope ["_law_pool_here", "_law_house", "_law_ended", "_law_one", "_law_ties"] ["_law_pool_here"] (defScope (top 41)) := ⟨rfl, rfl, rfl, by decide +kernel, rfl, by decide +kernel, by decide +kernel⟩
theorem ok__law_drawn_sheet {f : Addr} {fd : FuncData} (F : FnP K "_law_drawn_sheet" (top 41) f fd) (Z : Zs K mg) (G__law_take : Got P w K mg base 1 "_law_take" ["_law_pool_here", "_law_many"] (spD ⟨K, mg, Tb⟩ [true, false] .fz g__law_take)) (G__law_price : Got P w K mg base 2 "_law_price" ["_law_pool_here"] (spD ⟨K, mg, Tb⟩ [true] .fz g__law_price)) : FnOk P w K mg base CX0 3 f fd ["_law_pool_here"] (spD ⟨K, mg, Tb⟩ [true] .fz g__law_drawn_sheet) := by
  refine okP F sc__law_drawn_sheet (spD_len rfl) (fun cdv A outer s H vs Q E hr h => ⟨tS ⟨K, mg, Tb⟩ wh0 d__law_drawn_sheet, ?_, body_of (N := ["_law_pool_here", "_law_house", "_law_ended", "_law_one", "_law_ties"]) h⟩)
  exact (ds_cons (dS_set (i := 1) sc__law_drawn_sheet.nd (de_callG G__law_take hr rfl (da_cons (do_vr 0) (da_cons (do_ex de_int) da_nil))))
      (ds_cons (dS_set (i := 2) sc__law_drawn_sheet.nd (de_cmp (op_eqs hr.units) ok_eq (do_ex (de_callG G__law_take hr rfl (da_cons (do_vr 0) (da_cons (do_ex de_int) da_nil)))) (do_ex de_int) (nomark _)))
      (ds_cons (dS_setLc (i := 4) (own := [("_law_one", 3)]) rfl sc__law_drawn_sheet.nd (ts := [3]) (by decide) (sw_true rfl rfl rfl (by decide +kernel)) (di_range1 rfl Z.z_range (do_ex de_int)) (blkOk_by (own := [("_law_one", 3)]) (N := ["_law_pool_here", "_law_house", "_law_ended", "_law_one", "_law_ties"]) (sc := (defScope (top 41))) (by decide +kernel)) (fun _ _ _ _ _ => (dg_name 3 sc__law_drawn_sheet.nd)) (fun _ _ _ _ _ => (dts_one (PW.pt (dw_and (dt_cmp (op_nes hr.units) ok_ne (do_vr 3) (do_vr 1) (nomark _)) (dw_and (dt_not (dt_val (de_var 2))) (dw_and1 (dt_cmp (op_eqs hr.units) ok_eq (do_ex (de_callG G__law_take hr rfl (da_cons (do_vr 0) (da_cons (do_ex de_int) da_nil)))) (do_ex de_int) (nomark _)))))))) (fun _ _ _ _ _ => (de_tup (da_cons (do_ex (de_var 3)) (da_cons (do_ex (de_callG G__law_price hr rfl (da_cons (do_vr 0) da_nil))) da_nil)))))
      (ds_one (dS_ret (de_tup (da_cons (do_ex (de_var 1)) (da_cons (do_ex (de_op op_adds ok_adds (do_ex de_int) (do_ex (de_callG G__law_take hr rfl (da_cons (do_vr 0) (da_cons (do_ex (de_ixs (units1 hr) (do_ex (de_new (de_lst (da_cons (do_ex de_int) (da_cons (do_ex (de_op op_sub ok_sub (do_ex (de_op op_pow ok_pow (do_ex de_int) (do_ex de_int))) (do_ex de_int))) da_nil))))) (do_ex (de_callG G__law_take hr rfl (da_cons (do_vr 0) (da_cons (do_ex de_int) da_nil)))) (fun _ _ => rfl))) da_nil)))))) (da_cons (do_ex (de_var 2)) (da_cons (do_ex (de_callTy call_tuple_of ok_tuple rfl Z.z_tuple (by decide +kernel) (da_cons (do_vr 4) da_nil))) (da_cons (do_ex (de_callG G__law_take hr rfl (da_cons (do_vr 0) (da_cons (do_ex de_int) da_nil)))) da_nil)))))))))))
def d__law_drawn_deed : Sf := (sq (sSetN 2 (eLc [1] (tgName 1) (iR1 (.ex (eC (.int 3)))) bTrue (eCall [true, false] g__law_take [(.vr 0), (.ex (op2 gIxs (.ex (eLst [(.ex (eC (.int 9))), (.ex (op2 gPow (.ex (eC (.int 10))) (.ex (eC (.int 9)))))])) (.ex (eCall [true, false] g__law_take [(.vr 0), (.ex (eC (.int 2)))]))))]))) (sq (sSet 3 (op2 gIxs (.ex (eLst [(.ex (eC (.str "carry"))), (.ex (eC (.str "lose"))), (.ex (eC (.str "double"))), (.ex (eC (.str "calm"))), (.ex (eC (.str "fall"))), (.ex (eC (.str "rise"))), (.ex (eC (.str "leave"))), (.ex (eC (.str "beat"))), (.ex (eC (.str "road"))), (.ex (eC (.str "price")))])) (.ex (eCall [true, false] g__law_take [(.vr 0), (.ex (eC (.int 10)))])))) (sq (sIf (bD (op2 gEq (.vr 3) (.ex (eC (.str "beat"))))) (sRet (eTup [(.ex (eVar 3))])) sNx) (sq (sIf (bD (op2 gEq (.vr 3) (.ex (eC (.str "road"))))) (sRet (eTup [(.ex (eVar 3)), (.ex (op2 gIxs (.vr 2) (.ex (eC (.int 0))))), (.ex (op2 gIxs (.vr 2) (.ex (eC (.int 1))))), (.ex (op2 gEq (.ex (eCall [true, false] g__law_take [(.vr 0), (.ex (eC (.int 2)))])) (.ex (eC (.int 1)))))])) sNx) (sq (sIf (bD (op2 gEq (.vr 3) (.ex (eC (.str "price"))))) (sRet (eTup [(.ex (eVar 3)), (.ex (op2 gIxs (.vr 2) (.ex (eC (.int 0))))), (.ex (op2 gIxs (.vr 2) (.ex (eC (.int 1))))), (.ex (op2 gIxs (.vr 2) (.ex (eC (.int 2)))))])) sNx) (sRet (eTup [(.ex (eVar 3)), (.ex (op2 gIxs (.vr 2) (.ex (eC (.int 0)))))])))))))
def g__law_drawn_deed : List D → Option (D × List D) := gOf 4 [true]  d__law_drawn_deed
theorem sc__law_drawn_deed : FnScope ["_law_pool_here", "_law_turn", "_law_some", "_law_word"] ["_law_pool_here"] (defScope (top 42)) := ⟨rfl, rfl, rfl, by decide +kernel, rfl, by decide +kernel, by decide +kernel⟩
theorem ok__law_drawn_deed {f : Addr} {fd : FuncData} (F : FnP K "_law_drawn_deed" (top 42) f fd) (Z : Zs K mg) (G__law_take : Got P w K mg base 1 "_law_take" ["_law_pool_here", "_law_many"] (spD ⟨K, mg, Tb⟩ [true, false] .fz g__law_take)) : FnOk P w K mg base CX0 2 f fd ["_law_pool_here"] (spD ⟨K, mg, Tb⟩ [true] .fz g__law_drawn_deed) := by
  refine okP F sc__law_drawn_deed (spD_len rfl) (fun cdv A outer s H vs Q E hr h => ⟨tS ⟨K, mg, Tb⟩ wh0 d__law_drawn_deed, ?_, body_of (N := ["_law_pool_here", "_law_turn", "_law_some", "_law_word"]) h⟩)
  exact (ds_cons (dS_setLc (i := 2) (own := [("_law_turn", 1)]) rfl sc__law_drawn_deed.nd (ts := [1]) (by decide) (sw_true rfl rfl rfl (by decide +kernel)) (di_range1 rfl Z.z_range (do_ex de_int)) (blkOk_by (own := [("_law_turn", 1)]) (N := ["_law_pool_here", "_law_turn", "_law_some", "_law_word"]) (sc := (defScope (top 42))) (by decide +kernel)) (fun _ _ _ _ _ => (dg_name 1 sc__law_drawn_deed.nd)) (fun _ _ _ _ _ => dts_nil) (fun _ _ _ _ _ => (de_callG G__law_take hr rfl (da_cons (do_vr 0) (da_cons (do_ex (de_ixs (units1 hr) (do_ex (de_new (de_lst (da_cons (do_ex de_int) (da_cons (do_ex (de_op op_pow ok_pow (do_ex de_int) (do_ex de_int))) da_nil))))) (do_ex (de_callG G__law_take hr rfl (da_cons (do_vr 0) (da_cons (do_ex de_int) da_nil)))) (fun _ _ => rfl))) da_nil)))))
      (ds_cons (dS_set (i := 3) sc__law_drawn_deed.nd (de_ixs (units1 hr) (do_ex (de_new (de_lst (da_cons (do_ex de_str) (da_cons (do_ex de_str) (da_cons (do_ex de_str) (da_cons (do_ex de_str) (da_cons (do_ex de_str) (da_cons (do_ex de_str) (da_cons (do_ex de_str) (da_cons (do_ex de_str) (da_cons (do_ex de_str) (da_cons (do_ex de_str) da_nil))))))))))))) (do_ex (de_callG G__law_take hr rfl (da_cons (do_vr 0) (da_cons (do_ex de_int) da_nil)))) (fun _ _ => rfl)))
      (ds_cons (dS_if (dt_cmp (op_eqs hr.units) ok_eq (do_vr 3) (do_ex de_str) (nomark _)) (ds_one (dS_ret (de_tup (da_cons (do_ex (de_var 3)) da_nil)))) ds_nil)
      (ds_cons (dS_if (dt_cmp (op_eqs hr.units) ok_eq (do_vr 3) (do_ex de_str) (nomark _)) (ds_one (dS_ret (de_tup (da_cons (do_ex (de_var 3)) (da_cons (do_ex (de_ixs (units1 hr) (do_vr 2) (do_ex de_int) (fun _ _ => rfl))) (da_cons (do_ex (de_ixs (units1 hr) (do_vr 2) (do_ex de_int) (fun _ _ => rfl))) (da_cons (do_ex (de_cmp (op_eqs hr.units) ok_eq (do_ex (de_callG G__law_take hr rfl (da_cons (do_vr 0) (da_cons (do_ex de_int) da_nil)))) (do_ex de_int) (nomark _))) da_nil))))))) ds_nil)
      (ds_cons (dS_if (dt_cmp (op_eqs hr.units) ok_eq (do_vr 3) (do_ex de_str) (nomark _)) (ds_one (dS_ret (de_tup (da_cons (do_ex (de_var 3)) (da_cons (do_ex (de_ixs (units1 hr) (do_vr 2) (do_ex de_int) (fun _ _ => rfl))) (da_cons (do_ex (de_ixs (units1 hr) (do_vr 2) (do_ex de_int) (fun _ _ => rfl))) (da_cons (do_ex (de_ixs (units1 hr) (do_vr 2) (do_ex de_int) (fun _ _ => rfl))) da_nil))))))) ds_nil)
      (ds_one (dS_ret (de_tup (da_cons (do_ex (de_var 3)) (da_cons (do_ex (de_ixs (units1 hr) (do_vr 2) (do_ex de_int) (fun _ _ => rfl))) da_nil))))))))))
def d__law_web_text : Sf := (sq (sSetN 1 (eLst [(.ex (op2 gAdd (.ex (eC (.str "houses "))) (.ex (opA gStrI [(.ex (op2 gIxs (.vr 0) (.ex (eC (.int 0)))))]))))])) (sq (sFor (tgName 2) (iL (op2 gIxs (.vr 0) (.ex (eC (.int 1))))) (sDrop (eMeth 1 gAppend [(.ex (op2 gAdd (.ex (eC (.str "tie "))) (.ex (opM gJoin (eC (.str " ")) [(.ex (eLc [3] (tgName 3) (iT (eVar 2)) bTrue (opA gStrI [(.vr 3)])))]))))]))) (sRet (opM gJoin (eC (.str "\n")) [(.vr 1)]))))
def g__law_web_text : List D → Option (D × List D) := gOf 4 [false]  d__law_web_text
theorem sc__law_web_text : FnScope ["_law_web_here", "_law_rows", "_law_tie", "_law_part"] ["_law_web_here"] (defScope (top 43)) := ⟨rfl, rfl, rfl, by decide +kernel, rfl, by decide +kernel, by decide +kernel⟩
theorem ok__law_web_text {f : Addr} {fd : FuncData} (F : FnP K "_law_web_text" (top 43) f fd) (Z : Zs K mg)  : FnOk P w K mg base CX0 1 f fd ["_law_web_here"] (spD ⟨K, mg, Tb⟩ [false] .fz g__law_web_text) := by
  refine okP F sc__law_web_text (spD_len rfl) (fun cdv A outer s H vs Q E hr h => ⟨tS ⟨K, mg, Tb⟩ wh0 d__law_web_text, ?_, body_of (N := ["_law_web_here", "_law_rows", "_law_tie", "_law_part"]) h⟩)
  exact (ds_cons (dS_setN (i := 1) sc__law_web_text.nd (de_lst (da_cons (do_ex (de_op op_adds ok_adds (do_ex de_str) (do_ex (de_callTy call_str_int ok_strI rfl Z.z_str (by decide +kernel) (da_cons (do_ex (de_ixs (units1 hr) (do_vr 0) (do_ex de_int) (fun _ _ => rfl))) da_nil))))) da_nil)))
      (ds_cons (dS_for (ts := [2]) PassesOwn.never rfl (di_list (de_ixs (units1 hr) (do_vr 0) (do_ex de_int) (fun _ _ => rfl))) (dg_name 2 sc__law_web_text.nd) (ds_one (dS_drop (de_append (i := 1) (da_cons (do_ex (de_op op_adds ok_adds (do_ex de_str) (do_ex (de_strM PySem.F.slot_str_join PySem.F.type_str_join mt_join ok_join de_str (da_cons (do_ex (de_new (de_lc (own := [("_law_part", 3)]) rfl sc__law_web_text.nd (ts := [3]) (by decide) (di_tup (de_var 2)) (blkOk_by (own := [("_law_part", 3)]) (N := ["_law_web_here", "_law_rows", "_law_tie", "_law_part"]) (sc := (defScope (top 43))) (by decide +kernel)) (fun _ _ _ _ _ => (dg_name 3 sc__law_web_text.nd)) (fun _ _ _ _ _ => dts_nil) (fun _ _ _ _ _ => (de_callTy call_str_int ok_strI rfl Z.z_str (by decide +kernel) (da_cons (do_vr 3) da_nil)))))) da_nil))))) da_nil)))))
      (ds_one (dS_ret (de_strM PySem.F.slot_str_join PySem.F.type_str_join mt_join ok_join de_str (da_cons (do_vr 1) da_nil))))))
def d__law_sheet_text : Sf := (sq (sSet 1 (eLst [(.ex (op2 gIxs (.ex (eLst [(.ex (eC (.str "sheet"))), (.ex (eC (.str "ended")))])) (.ex (opA gInt [(.ex (op2 gIxs (.vr 0) (.ex (eC (.int 2)))))])))), (.ex (opA gStrI [(.ex (op2 gIxs (.vr 0) (.ex (eC (.int 0)))))])), (.ex (opA gStrI [(.ex (op2 gIxs (.vr 0) (.ex (eC (.int 1)))))])), (.ex (opA gStrI [(.ex (op2 gIxs (.vr 0) (.ex (eC (.int 4)))))]))])) (sRet (opM gJoin (eC (.str " ")) [(.ex (op2 gAdd (.vr 1) (.ex (eLc [2, 3] (tgTup (tgsCons (tgName 2) (tgsCons (tgName 3) tgsNil))) (iT (op2 gIxs (.vr 0) (.ex (eC (.int 3))))) bTrue (op2 gAdd (.ex (op2 gAdd (.ex (opA gStrI [(.vr 2)])) (.ex (eC (.str ":"))))) (.ex (opA gStrI [(.vr 3)])))))))])))
def g__law_sheet_text : List D → Option (D × List D) := gOf 4 [false]  d__law_sheet_text
theorem sc__law_sheet_text : FnScope ["_law_sheet", "_law_words", "_law_one", "_law_cost"] ["_law_sheet"] (defScope (top 44)) := ⟨rfl, rfl, rfl, by decide +kernel, rfl, by decide +kernel, by decide +kernel⟩
theorem ok__law_sheet_text {f : Addr} {fd : FuncData} (F : FnP K "_law_sheet_text" (top 44) f fd) (Z : Zs K mg)  : FnOk P w K mg base CX0 1 f fd ["_law_sheet"] (spD ⟨K, mg, Tb⟩ [false] .fz g__law_sheet_text) := by
  refine okP F sc__law_sheet_text (spD_len rfl) (fun cdv A outer s H vs Q E hr h => ⟨tS ⟨K, mg, Tb⟩ wh0 d__law_sheet_text, ?_, body_of (N := ["_law_sheet", "_law_words", "_law_one", "_law_cost"]) h⟩)
  exact (ds_cons (dS_set (i := 1) sc__law_sheet_text.nd (de_new (de_lst (da_cons (do_ex (de_ixs (units1 hr) (do_ex (de_new (de_lst (da_cons (do_ex de_str) (da_cons (do_ex de_str) da_nil))))) (do_ex (de_callTy call_int1 ok_int rfl Z.z_int (by decide +kernel) (da_cons (do_ex (de_ixs (units1 hr) (do_vr 0) (do_ex de_int) (fun _ _ => rfl))) da_nil))) (fun _ _ => rfl))) (da_cons (do_ex (de_callTy call_str_int ok_strI rfl Z.z_str (by decide +kernel) (da_cons (do_ex (de_ixs (units1 hr) (do_vr 0) (do_ex de_int) (fun _ _ => rfl))) da_nil))) (da_cons (do_ex (de_callTy call_str_int ok_strI rfl Z.z_str (by decide +kernel) (da_cons (do_ex (de_ixs (units1 hr) (do_vr 0) (do_ex de_int) (fun _ _ => rfl))) da_nil))) (da_cons (do_ex (de_callTy call_str_int ok_strI rfl Z.z_str (by decide +kernel) (da_cons (do_ex (de_ixs (units1 hr) (do_vr 0) (do_ex de_int) (fun _ _ => rfl))) da_nil))) da_nil)))))))
      (ds_one (dS_ret (de_strM PySem.F.slot_str_join PySem.F.type_str_join mt_join ok_join de_str (da_cons (do_ex (de_op op_adds ok_adds (do_vr 1) (do_ex (de_new (de_lc (own := [("_law_one", 2), ("_law_cost", 3)]) rfl sc__law_sheet_text.nd (ts := [2, 3]) (by decide) (di_tup (de_ixs (units1 hr) (do_vr 0) (do_ex de_int) (fun _ _ => rfl))) (blkOk_by (own := [("_law_one", 2), ("_law_cost", 3)]) (N := ["_law_sheet", "_law_words", "_law_one", "_law_cost"]) (sc := (defScope (top 44))) (by decide +kernel)) (fun _ _ _ _ _ => (dg_tup rfl (dgs_cons (dg_name 2 sc__law_sheet_text.nd) (dgs_cons (dg_name 3 sc__law_sheet_text.nd) dgs_nil)) (takes_cons (takes_cons takes_nil)))) (fun _ _ _ _ _ => dts_nil) (fun _ _ _ _ _ => (de_op op_adds ok_adds (do_ex (de_op op_adds ok_adds (do_ex (de_callTy call_str_int ok_strI rfl Z.z_str (by decide +kernel) (da_cons (do_vr 2) da_nil))) (do_ex de_str))) (do_ex (de_callTy call_str_int ok_strI rfl Z.z_str (by decide +kernel) (da_cons (do_vr 3) da_nil)))))))))) da_nil)))))
def d__law_deed_text : Sf := (sq (sSetN 1 (eLst [])) (sq (sFor (tgName 2) (iT (eVar 0)) (sDrop (eMeth 1 gAppend [(.ex (eIf (bD (op1 (gIsi "bool") (.vr 2))) (op2 gIxs (.ex (eLst [(.ex (eC (.str "shut"))), (.ex (eC (.str "open")))])) (.ex (opA gInt [(.vr 2)]))) (opA gStrS [(.vr 2)])))]))) (sRet (opM gJoin (eC (.str " ")) [(.vr 1)]))))
def g__law_deed_text : List D → Option (D × List D) := gOf 3 [false]  d__law_deed_text
theorem sc__law_deed_text : FnScope ["_law_deed", "_law_words", "_law_part"] ["_law_deed"] (defScope (top 45)) := ⟨rfl, rfl, rfl, by decide +kernel, rfl, by decide +kernel, by decide +kernel⟩
theorem ok__law_deed_text {f : Addr} {fd : FuncData} (F : FnP K "_law_deed_text" (top 45) f fd) (Z : Zs K mg)  : FnOk P w K mg base CX0 1 f fd ["_law_deed"] (spD ⟨K, mg, Tb⟩ [false] .fz g__law_deed_text) := by
  refine okP F sc__law_deed_text (spD_len rfl) (fun cdv A outer s H vs Q E hr h => ⟨tS ⟨K, mg, Tb⟩ wh0 d__law_deed_text, ?_, body_of (N := ["_law_deed", "_law_words", "_law_part"]) h⟩)
  exact (ds_cons (dS_setN (i := 1) sc__law_deed_text.nd (de_lst da_nil))
      (ds_cons (dS_for (ts := [2]) PassesOwn.never rfl (di_tup (de_var 0)) (dg_name 2 sc__law_deed_text.nd) (ds_one (dS_drop (de_append (i := 1) (da_cons (do_ex (de_if (dt_val (de_isi (by decide +kernel) rfl Z.z_isinstance (do_vr 2) rfl Z.z_bool (by decide +kernel))) (de_ixs (units1 hr) (do_ex (de_new (de_lst (da_cons (do_ex de_str) (da_cons (do_ex de_str) da_nil))))) (do_ex (de_callTy call_int1 ok_int rfl Z.z_int (by decide +kernel) (da_cons (do_vr 2) da_nil))) (fun _ _ => rfl)) (de_callTy call_str_any ok_strS rfl Z.z_str (by decide +kernel) (da_cons (do_vr 2) da_nil)))) da_nil)))))
      (ds_one (dS_ret (de_strM PySem.F.slot_str_join PySem.F.type_str_join mt_join ok_join de_str (da_cons (do_vr 1) da_nil))))))
def d__law_web_refused : Sf := (sq (sTry (sDropX (eCallX [false] g_shown_web [(.ex (eVar 0))])) [(mt [("NoWeb", true)], (some 1), (sRetN (eLst [(.ex (op1 (gXf "number" (okL ["NoWeb"])) (.vr 1)))])))]) (sRetN (eLst [(.ex (eC (.str "told")))])))
def g__law_web_refused : List D → Option (D × List D) := gOfN 2 [false]  d__law_web_refused
theorem sc__law_web_refused : FnScope ["_law_thing", "e"] ["_law_thing"] (defScope (top 46)) := ⟨rfl, rfl, rfl, by decide +kernel, rfl, by decide +kernel, by decide +kernel⟩
theorem ok__law_web_refused {f : Addr} {fd : FuncData} (F : FnP K "_law_web_refused" (top 46) f fd) (Z : Zs K mg) (G_shown_web : GotX P w K mg base 5 "shown_web" ["web"] (spX ⟨K, mg, Tb⟩ [false] .fz g_shown_web)) : FnOk P w K mg base CX0 6 f fd ["_law_thing"] (spD ⟨K, mg, Tb⟩ [false] .nw g__law_web_refused) := by
  refine okP F sc__law_web_refused (spD_len rfl) (fun cdv A outer s H vs Q E hr h => ⟨tS ⟨K, mg, Tb⟩ wh0 d__law_web_refused, ?_, bodyN_of (N := ["_law_thing", "e"]) h⟩)
  exact (ds_cons (dS_try rfl rfl rfl sc__law_web_refused.nd LamX.takes0 (fun W pn xe tk pw => (ds_one (dS_dropX (de_callXG tk G_shown_web hr rfl (da_cons (do_ex (de_var 0)) da_nil))))) (.as_ (i := 1) ⟨rfl, by decide, .inl Z.m_NoWeb⟩ (mtOk_cons (at_cls Z.m_NoWeb Z.x_NoWeb_NoWeb) mtOk_nil) rfl rfl (fun a pn wh => (ds_one (dS_retN (de_lst (da_cons (do_ex (de_xf (do_vr 1) (okL_of (mkL_cons (at_cls (P := fun C => XfC _ C ∧ PySem.W.findIn _ (.ref C) "number" = some none) Z.m_NoWeb Z.f_NoWeb_number) mkL_nil)))) da_nil))))) .nil))
      (ds_one (dS_retN (de_lst (da_cons (do_ex de_str) da_nil)))))
def d_law : Sf := (sq (sFor (tgName 1) (iR1 (.ex (opA gMax2 [(.ex (eC (.int 1))), (.ex (opA gMin2 [(.ex (opA gLen [(.vr 0)])), (.ex (eC (.int 16)))]))]))) (sq (sSetN 2 (eCall [false, false] g__law_pool [(.ex (eVar 0)), (.ex (eVar 1))])) (sq (sSet 3 (eCall [true, false] g__law_web [(.vr 2), (.ex (eC (.int 8)))])) (sq (sSet 4 (eCall [true] g__law_drawn_sheet [(.vr 2)])) (sq (sSetN 6 (eLc [5] (tgName 5) (iR1 (.ex (eCall [true, false] g__law_take [(.vr 2), (.ex (eC (.int 13)))]))) bTrue (eCall [true] g__law_drawn_deed [(.vr 2)]))) (sq (sSet 7 (op1 gRepr (.ex (eLst [(.ex (eVar 3)), (.ex (eVar 4)), (.ex (eVar 6))])))) (sq (sSet 9 (eLst [(.ex (eCall [false] g__law_web_text [(.ex (eVar 3))])), (.ex (eCall [false] g__law_sheet_text [(.ex (eVar 4))])), (.ex (opM gJoin (eC (.str "\n")) [(.ex (eLc [8] (tgName 8) (iL (eVar 6)) bTrue (eCall [false] g__law_deed_text [(.ex (eVar 8))])))]))])) (sq (sIf (bD (op2 gNe (.ex (eLst [(.ex (eCall [false] (told g_shown_web) [(.ex (eVar 3))])), (.ex (eCall [false] g_shown_sheet [(.ex (eVar 4))])), (.ex (eCall [false] g_shown_history [(.ex (eVar 6))]))])) (.vr 9))) (sRet (eC (.bool false))) sNx) (sFor (tgName 5) (iR1 (.ex (eC (.int 2)))) (sq (sSetT 10 (mLst [(eCallM [false] (.tp (.cn "" .fz (.cn "" (.ls .fz) .nl))) (told g_read_web) [(.ex (op2 gIxs (.vr 9) (.ex (eC (.int 0)))))]), (mF (eCall [false] (told g_read_sheet) [(.ex (op2 gIxs (.vr 9) (.ex (eC (.int 1)))))])), (mN (.ls .fz) (eCall [false] (told g_read_history) [(.ex (op2 gIxs (.vr 9) (.ex (eC (.int 2)))))]))])) (sq (sIf (bOr (bD (op2 gNe (.ex (eReprT 10)) (.vr 7))) (bD (op2 gNe (.ex (op1 gRepr (.ex (eLst [(.ex (eVar 3)), (.ex (eVar 4)), (.ex (eVar 6))])))) (.vr 7)))) (sRet (eC (.bool false))) sNx) (sq (sDrop (eAppP (plSub (plSub (plVar 10) (qC (.int 0))) (qC (.int 1))) (qC .none))) (sDrop (eAppP (plSub (plVar 10) (qC (.int 2))) (qC .none))))))))))))))) (sq (sSetN 11 (eLst [(.ex (eTup [(.ex (eTup [(.ex (eC (.int 0))), (.ex (eLst []))])), (.ex (eC .none))])), (.ex (eTup [(.ex (eTup [(.ex (eC (.int 2))), (.ex (eLst [(.ex (eTup [(.ex (eC (.int 0))), (.ex (eC (.int 1))), (.ex (eC (.int 1))), (.ex (eC (.int 1)))])), (.ex (eTup [(.ex (eC (.int 0))), (.ex (eC (.int 1))), (.ex (eC (.int 2))), (.ex (eC (.int 2)))]))]))])), (.ex (eC (.int 1)))])), (.ex (eTup [(.ex (eTup [(.ex (eC (.int 2))), (.ex (eLst [(.ex (eTup [(.ex (eC (.int 0))), (.ex (eC (.int 0))), (.ex (eC (.int 1))), (.ex (eC (.int 1)))]))]))])), (.ex (eC (.int 0)))])), (.ex (eTup [(.ex (eC .none)), (.ex (eC .none))]))])) (sq (sDrop (eMeth 11 gAppend [(.ex (eTup [(.ex (eTup [(.ex (eC (.int 2))), (.ex (eTup []))])), (.ex (eC .none))]))])) (sq (sIf (bD (op2 gNe (.ex (eLc [12, 13] (tgTup (tgsCons (tgName 12) (tgsCons (tgName 13) tgsNil))) (iL (eVar 11)) (bD (op2 gNe (.ex (eCall [false] g__law_web_refused [(.ex (eVar 12))])) (.ex (eLst [(.ex (eVar 13))])))) (eVar 12))) (.ex (eLst [])))) (sRet (eC (.bool false))) sNx) (sRet (eAnd (op2 gEq (.ex (eCall [false] (told g_read_history) [(.ex (eC (.str "")))])) (.ex (eLst []))) (op2 gEq (.ex (eCall [false] g_shown_history [(.ex (eLst []))])) (.ex (eC (.str ""))))))))))
def g_law : List D → Option (D × List D) := gOf 14 [false]  d_law
theorem sc_law : FnScope ["_law_script", "_law_k", "_law_pool_here", "_law_web_here", "_law_sheet", "_law_turn", "_law_history", "_law_kept", "_law_deed", "_law_texts", "_law_told", "_law_odd", "_law_thing", "_law_due"] ["_law_script"] (defScope (top 47)) := ⟨rfl, rfl, rfl, by decide +kernel, rfl, by decide +kernel, by decide +kernel⟩
theorem ok_law {f : Addr} {fd : FuncData} (F : FnP K "law" (top 47) f fd) (Z : Zs K mg) (G__law_pool : Got P w K mg base 2 "_law_pool" ["_law_script", "_law_k"] (spD ⟨K, mg, Tb⟩ [false, false] .nw g__law_pool)) (G__law_web : Got P w K mg base 3 "_law_web" ["_law_pool_here", "_law_most"] (spD ⟨K, mg, Tb⟩ [true, false] .fz g__law_web)) (G__law_drawn_sheet : Got P w K mg base 3 "_law_drawn_sheet" ["_law_pool_here"] (spD ⟨K, mg, Tb⟩ [true] .fz g__law_drawn_sheet)) (G__law_drawn_deed : Got P w K mg base 2 "_law_drawn_deed" ["_law_pool_here"] (spD ⟨K, mg, Tb⟩ [true] .fz g__law_drawn_deed)) (G__law_web_text : Got P w K mg base 1 "_law_web_text" ["_law_web_here"] (spD ⟨K, mg, Tb⟩ [false] .fz g__law_web_text)) (G__law_sheet_text : Got P w K mg base 1 "_law_sheet_text" ["_law_sheet"] (spD ⟨K, mg, Tb⟩ [false] .fz g__law_sheet_text)) (G_read_history : GotX P w K mg base 4 "read_history" ["text"] (spX ⟨K, mg, Tb⟩ [false] .nw g_read_history)) (G_shown_history : Got P w K mg base 2 "shown_history" ["history"] (spD ⟨K, mg, Tb⟩ [false] .fz g_shown_history)) (G_shown_web : GotX P w K mg base 5 "shown_web" ["web"] (spX ⟨K, mg, Tb⟩ [false] .fz g_shown_web)) (G_shown_sheet : Got P w K mg base 1 "shown_sheet" ["sheet"] (spD ⟨K, mg, Tb⟩ [false] .fz g_shown_sheet)) (G_read_web : GotX P w K mg base 5 "read_web" ["text"] (spX ⟨K, mg, Tb⟩ [false] (.tr (.tp (.cn "" .fz (.cn "" (.ls .fz) .nl)))) g_read_web)) (G_read_sheet : GotX P w K mg base 6 "read_sheet" ["text"] (spX ⟨K, mg, Tb⟩ [false] .fz g_read_sheet)) (G__law_take : Got P w K mg base 1 "_law_take" ["_law_pool_here", "_law_many"] (spD ⟨K, mg, Tb⟩ [true, false] .fz g__law_take)) (G__law_deed_text : Got P w K mg base 1 "_law_deed_text" ["_law_deed"] (spD ⟨K, mg, Tb⟩ [false] .fz g__law_deed_text)) (G__law_web_refused : Got P w K mg base 6 "_law_web_refused" ["_law_thing"] (spD ⟨K, mg, Tb⟩ [false] .nw g__law_web_refused)) : FnOkG P w K mg base 7 f fd ["_law_script"] (spD ⟨K, mg, Tb⟩ [false] .fz g_law) := by
  refine okG F sc_law (spD_len rfl) (fun cdv A outer s H vs Q E gd hr h => ⟨tS ⟨K, mg, Tb⟩ wh0 d_law, ?_, body_of (N := ["_law_script", "_law_k", "_law_pool_here", "_law_web_here", "_law_sheet", "_law_turn", "_law_history", "_law_kept", "_law_deed", "_law_texts", "_law_told", "_law_odd", "_law_thing", "_law_due"]) h⟩)
  exact (ds_cons (dS_for (ts := [1]) PassesOwn.never rfl (di_range1 rfl Z.z_range (do_ex (de_callB (call_max2 rfl) ok_max2 rfl Z.z_max (by decide +kernel) (da_cons (do_ex de_int) (da_cons (do_ex (de_callB (call_min2 rfl) ok_min2 rfl Z.z_min (by decide +kernel) (da_cons (do_ex (de_callB call_len1 ok_len rfl Z.z_len (by decide +kernel) (da_cons (do_vr 0) da_nil))) (da_cons (do_ex de_int) da_nil)))) da_nil))))) (dg_name 1 sc_law.nd) (ds_cons (dS_setN (i := 2) sc_law.nd (de_callGN G__law_pool hr rfl (da_cons (do_ex (de_var 0)) (da_cons (do_ex (de_var 1)) da_nil))))
      (ds_cons (dS_set (i := 3) sc_law.nd (de_callG G__law_web hr rfl (da_cons (do_vr 2) (da_cons (do_ex de_int) da_nil))))
      (ds_cons (dS_set (i := 4) sc_law.nd (de_callG G__law_drawn_sheet hr rfl (da_cons (do_vr 2) da_nil)))
      (ds_cons (dS_setLc (i := 6) (own := [("_law_turn", 5)]) rfl sc_law.nd (ts := [5]) (by decide) (sw_true rfl rfl rfl (by decide +kernel)) (di_range1 rfl Z.z_range (do_ex (de_callG G__law_take hr rfl (da_cons (do_vr 2) (da_cons (do_ex de_int) da_nil))))) (blkOk_by (own := [("_law_turn", 5)]) (N := ["_law_script", "_law_k", "_law_pool_here", "_law_web_here", "_law_sheet", "_law_turn", "_law_history", "_law_kept", "_law_deed", "_law_texts", "_law_told", "_law_odd", "_law_thing", "_law_due"]) (sc := (defScope (top 47))) (by decide +kernel)) (fun _ _ _ _ _ => (dg_name 5 sc_law.nd)) (fun _ _ _ _ _ => dts_nil) (fun _ _ _ _ _ => (de_callG G__law_drawn_deed hr rfl (da_cons (do_vr 2) da_nil))))
      (ds_cons (dS_set (i := 7) sc_law.nd (de_repr gd hr rfl Z.z_repr (do_ex (de_new (de_lst (da_cons (do_ex (de_var 3)) (da_cons (do_ex (de_var 4)) (da_cons (do_ex (de_var 6)) da_nil))))))))
      (ds_cons (dS_set (i := 9) sc_law.nd (de_new (de_lst (da_cons (do_ex (de_callG G__law_web_text hr rfl (da_cons (do_ex (de_var 3)) da_nil))) (da_cons (do_ex (de_callG G__law_sheet_text hr rfl (da_cons (do_ex (de_var 4)) da_nil))) (da_cons (do_ex (de_strM PySem.F.slot_str_join PySem.F.type_str_join mt_join ok_join de_str (da_cons (do_ex (de_new (de_lc (own := [("_law_deed", 8)]) rfl sc_law.nd (ts := [8]) (by decide) (di_list (de_var 6)) (blkOk_by (own := [("_law_deed", 8)]) (N := ["_law_script", "_law_k", "_law_pool_here", "_law_web_here", "_law_sheet", "_law_turn", "_law_history", "_law_kept", "_law_deed", "_law_texts", "_law_told", "_law_odd", "_law_thing", "_law_due"]) (sc := (defScope (top 47))) (by decide +kernel)) (fun _ _ _ _ _ => (dg_name 8 sc_law.nd)) (fun _ _ _ _ _ => dts_nil) (fun _ _ _ _ _ => (de_callG G__law_deed_text hr rfl (da_cons (do_ex (de_var 8)) da_nil)))))) da_nil))) da_nil))))))
      (ds_cons (dS_if (dt_cmp (op_nes hr.units) ok_ne (do_ex (de_new (de_lst (da_cons (do_ex (de_callTG G_shown_web hr rfl (da_cons (do_ex (de_var 3)) da_nil))) (da_cons (do_ex (de_callG G_shown_sheet hr rfl (da_cons (do_ex (de_var 4)) da_nil))) (da_cons (do_ex (de_callG G_shown_history hr rfl (da_cons (do_ex (de_var 6)) da_nil))) da_nil)))))) (do_vr 9) (nomark _)) (ds_one (dS_ret de_bool)) ds_nil)
      (ds_one (dS_for (ts := [5]) PassesOwn.never rfl (di_range1 rfl Z.z_range (do_ex de_int)) (dg_name 5 sc_law.nd) (ds_cons (dS_setT (i := 10) sc_law.nd (dm_lst (dma_cons (dm_callTG G_read_web hr rfl (da_cons (do_ex (de_ixs (units1 hr) (do_vr 9) (do_ex de_int) (fun _ _ => rfl))) da_nil)) (dma_cons (dm_fz (de_callTG G_read_sheet hr rfl (da_cons (do_ex (de_ixs (units1 hr) (do_vr 9) (do_ex de_int) (fun _ _ => rfl))) da_nil))) (dma_cons (dm_new (s := (.ls .fz)) (de_callTGN G_read_history hr rfl (da_cons (do_ex (de_ixs (units1 hr) (do_vr 9) (do_ex de_int) (fun _ _ => rfl))) da_nil))) dma_nil)))))
      (ds_cons (dS_if (PW.pt (dw_or (dt_cmp (op_nes hr.units) ok_ne (do_ex (de_reprT (i := 10) gd hr rfl Z.z_repr)) (do_vr 7) (nomark _)) (dw_or1 (dt_cmp (op_nes hr.units) ok_ne (do_ex (de_repr gd hr rfl Z.z_repr (do_ex (de_new (de_lst (da_cons (do_ex (de_var 3)) (da_cons (do_ex (de_var 4)) (da_cons (do_ex (de_var 6)) da_nil)))))))) (do_vr 7) (nomark _))))) (ds_one (dS_ret de_bool)) ds_nil)
      (ds_cons (dS_drop (de_appP (dpl_sub (units1 hr) (dpl_sub (units1 hr) (dpl_var 10) dq_int (fun _ _ => rfl)) dq_int (fun _ _ => rfl)) dq_none))
      (ds_one (dS_drop (de_appP (dpl_sub (units1 hr) (dpl_var 10) dq_int (fun _ _ => rfl)) dq_none))))))))))))))))
      (ds_cons (dS_setN (i := 11) sc_law.nd (de_lst (da_cons (do_ex (de_tup (da_cons (do_ex (de_tup (da_cons (do_ex de_int) (da_cons (do_ex (de_new (de_lst da_nil))) da_nil)))) (da_cons (do_ex de_none) da_nil)))) (da_cons (do_ex (de_tup (da_cons (do_ex (de_tup (da_cons (do_ex de_int) (da_cons (do_ex (de_new (de_lst (da_cons (do_ex (de_tup (da_cons (do_ex de_int) (da_cons (do_ex de_int) (da_cons (do_ex de_int) (da_cons (do_ex de_int) da_nil)))))) (da_cons (do_ex (de_tup (da_cons (do_ex de_int) (da_cons (do_ex de_int) (da_cons (do_ex de_int) (da_cons (do_ex de_int) da_nil)))))) da_nil))))) da_nil)))) (da_cons (do_ex de_int) da_nil)))) (da_cons (do_ex (de_tup (da_cons (do_ex (de_tup (da_cons (do_ex de_int) (da_cons (do_ex (de_new (de_lst (da_cons (do_ex (de_tup (da_cons (do_ex de_int) (da_cons (do_ex de_int) (da_cons (do_ex de_int) (da_cons (do_ex de_int) da_nil)))))) da_nil)))) da_nil)))) (da_cons (do_ex de_int) da_nil)))) (da_cons (do_ex (de_tup (da_cons (do_ex de_none) (da_cons (do_ex de_none) da_nil)))) da_nil))))))
      (ds_cons (dS_drop (de_append (i := 11) (da_cons (do_ex (de_tup (da_cons (do_ex (de_tup (da_cons (do_ex de_int) (da_cons (do_ex (de_tup da_nil)) da_nil)))) (da_cons (do_ex de_none) da_nil)))) da_nil)))
      (ds_cons (dS_if (dt_cmp (op_nes hr.units) ok_ne (do_ex (de_new (de_lc (own := [("_law_thing", 12), ("_law_due", 13)]) rfl sc_law.nd (ts := [12, 13]) (by decide) (di_list (de_var 11)) (blkOk_by (own := [("_law_thing", 12), ("_law_due", 13)]) (N := ["_law_script", "_law_k", "_law_pool_here", "_law_web_here", "_law_sheet", "_law_turn", "_law_history", "_law_kept", "_law_deed", "_law_texts", "_law_told", "_law_odd", "_law_thing", "_law_due"]) (sc := (defScope (top 47))) (by decide +kernel)) (fun _ _ _ _ _ => (dg_tup rfl (dgs_cons (dg_name 12 sc_law.nd) (dgs_cons (dg_name 13 sc_law.nd) dgs_nil)) (takes_cons (takes_cons takes_nil)))) (fun _ _ _ _ _ => (dts_one (dt_cmp (op_nes hr.units) ok_ne (do_ex (de_new (de_callGN G__law_web_refused hr rfl (da_cons (do_ex (de_var 12)) da_nil)))) (do_ex (de_new (de_lst (da_cons (do_ex (de_var 13)) da_nil)))) (nomark _)))) (fun _ _ _ _ _ => (de_var 12))))) (do_ex (de_new (de_lst da_nil))) (nomark _)) (ds_one (dS_ret de_bool)) ds_nil)
      (ds_one (dS_ret (de_and (de_cmp (op_eqs hr.units) ok_eq (do_ex (de_new (de_callTGN G_read_history hr rfl (da_cons (do_ex de_str) da_nil)))) (do_ex (de_new (de_lst da_nil))) (nomark _)) (de_one (de_cmp (op_eqs hr.units) ok_eq (do_ex (de_callG G_shown_history hr rfl (da_cons (do_ex (de_new (de_lst da_nil))) da_nil))) (do_ex de_str) (nomark _))))))))))
end
end K58
namespace K58
open PySem PySem.Spec PyProof.Rows L2 DL
def D_is_whole : He.DefD := ⟨("is_whole", none), "is_whole", "is_whole", defArgs (top 8), defBody (top 8), defScope (top 8), [], []⟩
def D_is_house : He.DefD := ⟨("is_house", none), "is_house", "is_house", defArgs (top 9), defBody (top 9), defScope (top 9), [], []⟩
def D_is_price : He.DefD := ⟨("is_price", none), "is_price", "is_price", defArgs (top 10), defBody (top 10), defScope (top 10), [], []⟩
def D_is_tie : He.DefD := ⟨("is_tie", none), "is_tie", "is_tie", defArgs (top 11), defBody (top 11), defScope (top 11), [], []⟩
def D_look_at_web : He.DefD := ⟨("look_at_web", none), "look_at_web", "look_at_web", defArgs (top 12), defBody (top 12), defScope (top 12), [], []⟩
def D_is_told_tie : He.DefD := ⟨("is_told_tie", none), "is_told_tie", "is_told_tie", defArgs (top 15), defBody (top 15), defScope (top 15), [], []⟩
def D_are_told_ties : He.DefD := ⟨("are_told_ties", none), "are_told_ties", "are_told_ties", defArgs (top 16), defBody (top 16), defScope (top 16), [], []⟩
def D_is_sheet : He.DefD := ⟨("is_sheet", none), "is_sheet", "is_sheet", defArgs (top 17), defBody (top 17), defScope (top 17), [], []⟩
def D_is_figures : He.DefD := ⟨("is_figures", none), "is_figures", "is_figures", defArgs (top 22), defBody (top 22), defScope (top 22), [], []⟩
def D_are_figures : He.DefD := ⟨("are_figures", none), "are_figures", "are_figures", defArgs (top 23), defBody (top 23), defScope (top 23), [], []⟩
def D_look_at_text : He.DefD := ⟨("look_at_text", none), "look_at_text", "look_at_text", defArgs (top 24), defBody (top 24), defScope (top 24), [], []⟩
def D_shown_web : He.DefD := ⟨("shown_web", none), "shown_web", "shown_web", defArgs (top 25), defBody (top 25), defScope (top 25), [], []⟩
def D_read_web : He.DefD := ⟨("read_web", none), "read_web", "read_web", defArgs (top 26), defBody (top 26), defScope (top 26), [], []⟩
def D_shown_sheet : He.DefD := ⟨("shown_sheet", none), "shown_sheet", "shown_sheet", defArgs (top 27), defBody (top 27), defScope (top 27), [], []⟩
def D_tie_of : He.DefD := ⟨("tie_of", none), "tie_of", "tie_of", defArgs (top 28), defBody (top 28), defScope (top 28), [], []⟩
def D_read_sheet : He.DefD := ⟨("read_sheet", none), "read_sheet", "read_sheet", defArgs (top 29), defBody (top 29), defScope (top 29), [], []⟩
def D_shown_deed : He.DefD := ⟨("shown_deed", none), "shown_deed", "shown_deed", defArgs (top 30), defBody (top 30), defScope (top 30), [], []⟩
def D_shown_history : He.DefD := ⟨("shown_history", none), "shown_history", "shown_history", defArgs (top 31), defBody (top 31), defScope (top 31), [], []⟩
def D_is_given : He.DefD := ⟨("is_given", none), "is_given", "is_given", defArgs (top 32), defBody (top 32), defScope (top 32), [], []⟩
def D_deed_of : He.DefD := ⟨("deed_of", none), "deed_of", "deed_of", defArgs (top 33), defBody (top 33), defScope (top 33), [], []⟩
def D_read_history : He.DefD := ⟨("read_history", none), "read_history", "read_history", defArgs (top 34), defBody (top 34), defScope (top 34), [], []⟩
def D__law_cell_at : He.DefD := ⟨("_law_cell_at", none), "_law_cell_at", "_law_cell_at", defArgs (top 36), defBody (top 36), defScope (top 36), [], []⟩
def D__law_pool : He.DefD := ⟨("_law_pool", none), "_law_pool", "_law_pool", defArgs (top 37), defBody (top 37), defScope (top 37), [], []⟩
def D__law_take : He.DefD := ⟨("_law_take", none), "_law_take", "_law_take", defArgs (top 38), defBody (top 38), defScope (top 38), [], []⟩
def D__law_price : He.DefD := ⟨("_law_price", none), "_law_price", "_law_price", defArgs (top 39), defBody (top 39), defScope (top 39), [], []⟩
def D__law_web : He.DefD := ⟨("_law_web", none), "_law_web", "_law_web", defArgs (top 40), defBody (top 40), defScope (top 40), [], []⟩
def D__law_drawn_sheet : He.DefD := ⟨("_law_drawn_sheet", none), "_law_drawn_sheet", "_law_drawn_sheet", defArgs (top 41), defBody (top 41), defScope (top 41), [], []⟩
def D__law_drawn_deed : He.DefD := ⟨("_law_drawn_deed", none), "_law_drawn_deed", "_law_drawn_deed", defArgs (top 42), defBody (top 42), defScope (top 42), [], []⟩
def D__law_web_text : He.DefD := ⟨("_law_web_text", none), "_law_web_text", "_law_web_text", defArgs (top 43), defBody (top 43), defScope (top 43), [], []⟩
def D__law_sheet_text : He.DefD := ⟨("_law_sheet_text", none), "_law_sheet_text", "_law_sheet_text", defArgs (top 44), defBody (top 44), defScope (top 44), [], []⟩
def D__law_deed_text : He.DefD := ⟨("_law_deed_text", none), "_law_deed_text", "_law_deed_text", defArgs (top 45), defBody (top 45), defScope (top 45), [], []⟩
def D__law_web_refused : He.DefD := ⟨("_law_web_refused", none), "_law_web_refused", "_law_web_refused", defArgs (top 46), defBody (top 46), defScope (top 46), [], []⟩
def D_law : He.DefD := ⟨("law", none), "law", "law", defArgs (top 47), defBody (top 47), defScope (top 47), [], []⟩
def D_NoText_init : He.DefD := ⟨("NoText", some "__init__"), "__init__", "NoText.__init__", defArgs (mth (top 3) 0), defBody (mth (top 3) 0), defScope (mth (top 3) 0), [], []⟩
def D_NoWeb_init : He.DefD := ⟨("NoWeb", some "__init__"), "__init__", "NoWeb.__init__", defArgs (mth (top 2) 0), defBody (mth (top 2) 0), defScope (mth (top 2) 0), [], []⟩
def fnl : List He.DefD := [D_is_whole, D_is_house, D_is_price, D_is_tie, D_look_at_web, D_is_told_tie, D_are_told_ties, D_is_sheet, D_is_figures, D_are_figures, D_look_at_text, D_shown_web, D_read_web, D_shown_sheet, D_tie_of, D_read_sheet, D_shown_deed, D_shown_history, D_is_given, D_deed_of, D_read_history, D__law_cell_at, D__law_pool, D__law_take, D__law_price, D__law_web, D__law_drawn_sheet, D__law_drawn_deed, D__law_web_text, D__law_sheet_text, D__law_deed_text, D__law_web_refused, D_law, D_NoText_init, D_NoWeb_init]
def fal : List He.Fa := [.glo "is_whole", .glo "is_house", .glo "is_price", .glo "is_tie", .glo "look_at_web", .glo "is_told_tie", .glo "are_told_ties", .glo "is_sheet", .glo "is_figures", .glo "are_figures", .glo "look_at_text", .glo "shown_web", .glo "read_web", .glo "shown_sheet", .glo "tie_of", .glo "read_sheet", .glo "shown_deed", .glo "shown_history", .glo "is_given", .glo "deed_of", .glo "read_history", .glo "_law_cell_at", .glo "_law_pool", .glo "_law_take", .glo "_law_price", .glo "_law_web", .glo "_law_drawn_sheet", .glo "_law_drawn_deed", .glo "_law_web_text", .glo "_law_sheet_text", .glo "_law_deed_text", .glo "_law_web_refused", .glo "law", .glo "HeraldError", .glo "NoText", .glo "NoWeb", .glo "FORMS", .free "all", .free "bool", .free "enumerate", .free "int", .free "isinstance", .free "len", .free "list", .free "max", .free "min", .free "range", .free "repr", .free "str", .free "tuple", .free "zip", .int "MOST_AGE" 40, .int "MOST_FIGURES" 9, .int "MOST_HOUSES" 8, .int "MOST_PRICE" 99, .int "MOST_TIES" 20, .str "FIGURES" "0123456789"]
def exB (K : PySem.W.Frag) : Bool := exmB K (.ref (He.ga K "NoWeb")) (.ref (He.ga K "NoWeb")) true && ((xfB K (He.ga K "NoWeb") && noatB K (He.ga K "NoWeb") "number") && ((oexB K (He.ga K "NoText") && (initB K (He.ga K "NoText") && noatB K (He.ga K "NoText") "row")) && ((oexB K (He.ga K "NoWeb") && (initB K (He.ga K "NoWeb") && noatB K (He.ga K "NoWeb") "number")) && (baseB K (He.ga K "HeraldError") && (gdB K (He.ga K "FORMS") kv_FORMS && (true))))))
abbrev Rw : PySem.W.OpenRow := PySem.W.OpenLaw.row PySem.Challenge.rw_linkheralds_k58_texts_written_and_read
def csT (K : PySem.W.Frag) : List (Addr × Addr) := []
def TT (K : PySem.W.Frag) : TbT := []
abbrev hk : PySem.W.Hook := hookW 4 fal fnl [((fun K => He.ga K "FORMS"), ["carry", "lose", "double", "beat", "calm", "fall", "rise", "road", "price", "leave"])] [] exB
def ob (s : PySem.W.SharedT) : He.AlX := obsW 4 fal fnl [((fun K => He.ga K "FORMS"), ["carry", "lose", "double", "beat", "calm", "fall", "rise", "road", "price", "leave"])] [] exB (HandSHeadRun.getT s)
theorem ob_eq (s : PySem.W.SharedT) : ob s = hk.obs s.abs := obsW_eq (HandSHeadRun.getT_eq s)
theorem run (w : World) : HandSHeadRun.RunEq Rw (PySem.W.view Rw.prog [47]) hk ob 20000 ("HeraldError" :: "NoWeb" :: "NoText" :: "MOST_HOUSES" :: "MOST_TIES" :: "MOST_PRICE" :: "is_whole" :: "is_house" :: "is_price" :: "is_tie" :: "look_at_web" :: "MOST_AGE" :: "is_told_tie" :: "are_told_ties" :: "is_sheet" :: "FIGURES" :: "MOST_FIGURES" :: "FORMS" :: "is_figures" :: "are_figures" :: "look_at_text" :: "shown_web" :: "read_web" :: "shown_sheet" :: "tie_of" :: "read_sheet" :: "shown_deed" :: "shown_history" :: "is_given" :: "deed_of" :: "read_history" :: "_law_cell_at" :: "_law_pool" :: "_law_take" :: "_law_price" :: "_law_web" :: "_law_drawn_sheet" :: "_law_drawn_deed" :: "_law_web_text" :: "_law_sheet_text" :: "_law_deed_text" :: "_law_web_refused" :: [] : List PySem.Str) w := by
  refine PySem.W.byRow2 "special-get-raises" (P := fun w => HandSHeadRun.RunEq Rw (PySem.W.view Rw.prog [47]) hk ob 20000 ("HeraldError" :: "NoWeb" :: "NoText" :: "MOST_HOUSES" :: "MOST_TIES" :: "MOST_PRICE" :: "is_whole" :: "is_house" :: "is_price" :: "is_tie" :: "look_at_web" :: "MOST_AGE" :: "is_told_tie" :: "are_told_ties" :: "is_sheet" :: "FIGURES" :: "MOST_FIGURES" :: "FORMS" :: "is_figures" :: "are_figures" :: "look_at_text" :: "shown_web" :: "read_web" :: "shown_sheet" :: "tie_of" :: "read_sheet" :: "shown_deed" :: "shown_history" :: "is_given" :: "deed_of" :: "read_history" :: "_law_cell_at" :: "_law_pool" :: "_law_take" :: "_law_price" :: "_law_web" :: "_law_drawn_sheet" :: "_law_drawn_deed" :: "_law_web_text" :: "_law_sheet_text" :: "_law_deed_text" :: "_law_web_refused" :: [] : List PySem.Str) w) (fun w => ?_) (fun w => ?_) w
  · intro os
    kernel_rfl
  · intro os
    kernel_rfl
theorem facts {P : Program} {w : World} {K : PySem.W.Frag} {h : Heap} {mg : Str → Option Value} {f : Addr} (X : K.In h) (G : h.Ns mainGlobals mg) (hfa : mg ("law" : Str) = some (.ref f)) (cc : He.SaysX fal fnl [((fun K => He.ga K "FORMS"), ["carry", "lose", "double", "beat", "calm", "fall", "rise", "road", "price", "leave"])] [] exB w h K) :
    ∃ fd : FuncData, (∀ (s : Shared) (v : Value), BindsTo s fd ⟨[v], []⟩ [("_law_script", v)]) ∧ ∀ base : Heap, K.In base → base.Ns mainGlobals mg → (∀ p ∈ csT K, LamX.TabB base mg p.1 p.2) → FnOkG P w K mg base 7 f fd ["_law_script"] (spD ⟨K, mg, TT K⟩ [false] .fz g_law) := by
  have c := cc.t.d
  have x := cc.more
  obtain ⟨q_x_NoWeb_NoWeb, x⟩ := He.ba x
  obtain ⟨q_f_NoWeb_number, x⟩ := He.ba x
  obtain ⟨q_r1_NoText, x⟩ := He.ba x
  obtain ⟨q_r1_NoWeb, x⟩ := He.ba x
  obtain ⟨q_ba_HeraldError, x⟩ := He.ba x
  obtain ⟨q_gd_FORMS, x⟩ := He.ba x
  have Z : Zs K mg := ⟨He.free_ok X G (c.fact 37 (f := .free "all") rfl), He.free_ok X G (c.fact 38 (f := .free "bool") rfl), He.free_ok X G (c.fact 39 (f := .free "enumerate") rfl), He.free_ok X G (c.fact 40 (f := .free "int") rfl), He.free_ok X G (c.fact 41 (f := .free "isinstance") rfl), He.free_ok X G (c.fact 42 (f := .free "len") rfl), He.free_ok X G (c.fact 43 (f := .free "list") rfl), He.free_ok X G (c.fact 44 (f := .free "max") rfl), He.free_ok X G (c.fact 45 (f := .free "min") rfl), He.free_ok X G (c.fact 46 (f := .free "range") rfl), He.free_ok X G (c.fact 47 (f := .free "repr") rfl), He.free_ok X G (c.fact 48 (f := .free "str") rfl), He.free_ok X G (c.fact 49 (f := .free "tuple") rfl), He.free_ok X G (c.fact 50 (f := .free "zip") rfl), He.int_ok X G (c.fact 51 (f := .int "MOST_AGE" 40) rfl), He.int_ok X G (c.fact 52 (f := .int "MOST_FIGURES" 9) rfl), He.int_ok X G (c.fact 53 (f := .int "MOST_HOUSES" 8) rfl), He.int_ok X G (c.fact 54 (f := .int "MOST_PRICE" 99) rfl), He.int_ok X G (c.fact 55 (f := .int "MOST_TIES" 20) rfl), He.str_ok X G (c.fact 56 (f := .str "FIGURES" "0123456789") rfl), He.glo_ok X G (c.fact 35 (f := .glo "NoWeb") rfl), of_decide_eq_true q_x_NoWeb_NoWeb, xfa_ok q_f_NoWeb_number⟩
  obtain ⟨fd_is_whole, F_is_whole⟩ := c.def_ 0 (d := D_is_whole) rfl
  have m_is_whole : mg "is_whole" = _ := He.glo_ok X G (c.fact 0 (f := .glo "is_whole") rfl)
  have b_is_whole : Binds K fd_is_whole ["thing"] [] := FunD.bindsN F_is_whole fun _ _ _ _ _ _ us hl => match us, hl with | [_], _ => rfl
  obtain ⟨fd_is_house, F_is_house⟩ := c.def_ 1 (d := D_is_house) rfl
  have m_is_house : mg "is_house" = _ := He.glo_ok X G (c.fact 1 (f := .glo "is_house") rfl)
  have b_is_house : Binds K fd_is_house ["many", "thing"] [] := FunD.bindsN F_is_house fun _ _ _ _ _ _ us hl => match us, hl with | [_, _], _ => rfl
  obtain ⟨fd_is_price, F_is_price⟩ := c.def_ 2 (d := D_is_price) rfl
  have m_is_price : mg "is_price" = _ := He.glo_ok X G (c.fact 2 (f := .glo "is_price") rfl)
  have b_is_price : Binds K fd_is_price ["thing"] [] := FunD.bindsN F_is_price fun _ _ _ _ _ _ us hl => match us, hl with | [_], _ => rfl
  obtain ⟨fd_is_tie, F_is_tie⟩ := c.def_ 3 (d := D_is_tie) rfl
  have m_is_tie : mg "is_tie" = _ := He.glo_ok X G (c.fact 3 (f := .glo "is_tie") rfl)
  have b_is_tie : Binds K fd_is_tie ["many", "thing"] [] := FunD.bindsN F_is_tie fun _ _ _ _ _ _ us hl => match us, hl with | [_, _], _ => rfl
  obtain ⟨fd_look_at_web, F_look_at_web⟩ := c.def_ 4 (d := D_look_at_web) rfl
  have m_look_at_web : mg "look_at_web" = _ := He.glo_ok X G (c.fact 4 (f := .glo "look_at_web") rfl)
  have b_look_at_web : Binds K fd_look_at_web ["thing"] [] := FunD.bindsN F_look_at_web fun _ _ _ _ _ _ us hl => match us, hl with | [_], _ => rfl
  obtain ⟨fd_is_told_tie, F_is_told_tie⟩ := c.def_ 5 (d := D_is_told_tie) rfl
  have m_is_told_tie : mg "is_told_tie" = _ := He.glo_ok X G (c.fact 5 (f := .glo "is_told_tie") rfl)
  have b_is_told_tie : Binds K fd_is_told_tie ["house", "thing"] [] := FunD.bindsN F_is_told_tie fun _ _ _ _ _ _ us hl => match us, hl with | [_, _], _ => rfl
  obtain ⟨fd_are_told_ties, F_are_told_ties⟩ := c.def_ 6 (d := D_are_told_ties) rfl
  have m_are_told_ties : mg "are_told_ties" = _ := He.glo_ok X G (c.fact 6 (f := .glo "are_told_ties") rfl)
  have b_are_told_ties : Binds K fd_are_told_ties ["house", "thing"] [] := FunD.bindsN F_are_told_ties fun _ _ _ _ _ _ us hl => match us, hl with | [_, _], _ => rfl
  obtain ⟨fd_is_sheet, F_is_sheet⟩ := c.def_ 7 (d := D_is_sheet) rfl
  have m_is_sheet : mg "is_sheet" = _ := He.glo_ok X G (c.fact 7 (f := .glo "is_sheet") rfl)
  have b_is_sheet : Binds K fd_is_sheet ["thing"] [] := FunD.bindsN F_is_sheet fun _ _ _ _ _ _ us hl => match us, hl with | [_], _ => rfl
  obtain ⟨fd_is_figures, F_is_figures⟩ := c.def_ 8 (d := D_is_figures) rfl
  have m_is_figures : mg "is_figures" = _ := He.glo_ok X G (c.fact 8 (f := .glo "is_figures") rfl)
  have b_is_figures : Binds K fd_is_figures ["word"] [] := FunD.bindsN F_is_figures fun _ _ _ _ _ _ us hl => match us, hl with | [_], _ => rfl
  obtain ⟨fd_are_figures, F_are_figures⟩ := c.def_ 9 (d := D_are_figures) rfl
  have m_are_figures : mg "are_figures" = _ := He.glo_ok X G (c.fact 9 (f := .glo "are_figures") rfl)
  have b_are_figures : Binds K fd_are_figures ["words"] [] := FunD.bindsN F_are_figures fun _ _ _ _ _ _ us hl => match us, hl with | [_], _ => rfl
  obtain ⟨fd_look_at_text, F_look_at_text⟩ := c.def_ 10 (d := D_look_at_text) rfl
  have m_look_at_text : mg "look_at_text" = _ := He.glo_ok X G (c.fact 10 (f := .glo "look_at_text") rfl)
  have b_look_at_text : Binds K fd_look_at_text ["text"] [] := FunD.bindsN F_look_at_text fun _ _ _ _ _ _ us hl => match us, hl with | [_], _ => rfl
  obtain ⟨fd_shown_web, F_shown_web⟩ := c.def_ 11 (d := D_shown_web) rfl
  have m_shown_web : mg "shown_web" = _ := He.glo_ok X G (c.fact 11 (f := .glo "shown_web") rfl)
  have b_shown_web : Binds K fd_shown_web ["web"] [] := FunD.bindsN F_shown_web fun _ _ _ _ _ _ us hl => match us, hl with | [_], _ => rfl
  obtain ⟨fd_read_web, F_read_web⟩ := c.def_ 12 (d := D_read_web) rfl
  have m_read_web : mg "read_web" = _ := He.glo_ok X G (c.fact 12 (f := .glo "read_web") rfl)
  have b_read_web : Binds K fd_read_web ["text"] [] := FunD.bindsN F_read_web fun _ _ _ _ _ _ us hl => match us, hl with | [_], _ => rfl
  obtain ⟨fd_shown_sheet, F_shown_sheet⟩ := c.def_ 13 (d := D_shown_sheet) rfl
  have m_shown_sheet : mg "shown_sheet" = _ := He.glo_ok X G (c.fact 13 (f := .glo "shown_sheet") rfl)
  have b_shown_sheet : Binds K fd_shown_sheet ["sheet"] [] := FunD.bindsN F_shown_sheet fun _ _ _ _ _ _ us hl => match us, hl with | [_], _ => rfl
  obtain ⟨fd_tie_of, F_tie_of⟩ := c.def_ 14 (d := D_tie_of) rfl
  have m_tie_of : mg "tie_of" = _ := He.glo_ok X G (c.fact 14 (f := .glo "tie_of") rfl)
  have b_tie_of : Binds K fd_tie_of ["word"] [] := FunD.bindsN F_tie_of fun _ _ _ _ _ _ us hl => match us, hl with | [_], _ => rfl
  obtain ⟨fd_read_sheet, F_read_sheet⟩ := c.def_ 15 (d := D_read_sheet) rfl
  have m_read_sheet : mg "read_sheet" = _ := He.glo_ok X G (c.fact 15 (f := .glo "read_sheet") rfl)
  have b_read_sheet : Binds K fd_read_sheet ["text"] [] := FunD.bindsN F_read_sheet fun _ _ _ _ _ _ us hl => match us, hl with | [_], _ => rfl
  obtain ⟨fd_shown_deed, F_shown_deed⟩ := c.def_ 16 (d := D_shown_deed) rfl
  have m_shown_deed : mg "shown_deed" = _ := He.glo_ok X G (c.fact 16 (f := .glo "shown_deed") rfl)
  have b_shown_deed : Binds K fd_shown_deed ["deed"] [] := FunD.bindsN F_shown_deed fun _ _ _ _ _ _ us hl => match us, hl with | [_], _ => rfl
  obtain ⟨fd_shown_history, F_shown_history⟩ := c.def_ 17 (d := D_shown_history) rfl
  have m_shown_history : mg "shown_history" = _ := He.glo_ok X G (c.fact 17 (f := .glo "shown_history") rfl)
  have b_shown_history : Binds K fd_shown_history ["history"] [] := FunD.bindsN F_shown_history fun _ _ _ _ _ _ us hl => match us, hl with | [_], _ => rfl
  obtain ⟨fd_is_given, F_is_given⟩ := c.def_ 18 (d := D_is_given) rfl
  have m_is_given : mg "is_given" = _ := He.glo_ok X G (c.fact 18 (f := .glo "is_given") rfl)
  have b_is_given : Binds K fd_is_given ["sort", "word"] [] := FunD.bindsN F_is_given fun _ _ _ _ _ _ us hl => match us, hl with | [_, _], _ => rfl
  obtain ⟨fd_deed_of, F_deed_of⟩ := c.def_ 19 (d := D_deed_of) rfl
  have m_deed_of : mg "deed_of" = _ := He.glo_ok X G (c.fact 19 (f := .glo "deed_of") rfl)
  have b_deed_of : Binds K fd_deed_of ["row"] [] := FunD.bindsN F_deed_of fun _ _ _ _ _ _ us hl => match us, hl with | [_], _ => rfl
  obtain ⟨fd_read_history, F_read_history⟩ := c.def_ 20 (d := D_read_history) rfl
  have m_read_history : mg "read_history" = _ := He.glo_ok X G (c.fact 20 (f := .glo "read_history") rfl)
  have b_read_history : Binds K fd_read_history ["text"] [] := FunD.bindsN F_read_history fun _ _ _ _ _ _ us hl => match us, hl with | [_], _ => rfl
  obtain ⟨fd__law_cell_at, F__law_cell_at⟩ := c.def_ 21 (d := D__law_cell_at) rfl
  have m__law_cell_at : mg "_law_cell_at" = _ := He.glo_ok X G (c.fact 21 (f := .glo "_law_cell_at") rfl)
  have b__law_cell_at : Binds K fd__law_cell_at ["_law_script", "_law_k"] [] := FunD.bindsN F__law_cell_at fun _ _ _ _ _ _ us hl => match us, hl with | [_, _], _ => rfl
  obtain ⟨fd__law_pool, F__law_pool⟩ := c.def_ 22 (d := D__law_pool) rfl
  have m__law_pool : mg "_law_pool" = _ := He.glo_ok X G (c.fact 22 (f := .glo "_law_pool") rfl)
  have b__law_pool : Binds K fd__law_pool ["_law_script", "_law_k"] [] := FunD.bindsN F__law_pool fun _ _ _ _ _ _ us hl => match us, hl with | [_, _], _ => rfl
  obtain ⟨fd__law_take, F__law_take⟩ := c.def_ 23 (d := D__law_take) rfl
  have m__law_take : mg "_law_take" = _ := He.glo_ok X G (c.fact 23 (f := .glo "_law_take") rfl)
  have b__law_take : Binds K fd__law_take ["_law_pool_here", "_law_many"] [] := FunD.bindsN F__law_take fun _ _ _ _ _ _ us hl => match us, hl with | [_, _], _ => rfl
  obtain ⟨fd__law_price, F__law_price⟩ := c.def_ 24 (d := D__law_price) rfl
  have m__law_price : mg "_law_price" = _ := He.glo_ok X G (c.fact 24 (f := .glo "_law_price") rfl)
  have b__law_price : Binds K fd__law_price ["_law_pool_here"] [] := FunD.bindsN F__law_price fun _ _ _ _ _ _ us hl => match us, hl with | [_], _ => rfl
  obtain ⟨fd__law_web, F__law_web⟩ := c.def_ 25 (d := D__law_web) rfl
  have m__law_web : mg "_law_web" = _ := He.glo_ok X G (c.fact 25 (f := .glo "_law_web") rfl)
  have b__law_web : Binds K fd__law_web ["_law_pool_here", "_law_most"] [] := FunD.bindsN F__law_web fun _ _ _ _ _ _ us hl => match us, hl with | [_, _], _ => rfl
  obtain ⟨fd__law_drawn_sheet, F__law_drawn_sheet⟩ := c.def_ 26 (d := D__law_drawn_sheet) rfl
  have m__law_drawn_sheet : mg "_law_drawn_sheet" = _ := He.glo_ok X G (c.fact 26 (f := .glo "_law_drawn_sheet") rfl)
  have b__law_drawn_sheet : Binds K fd__law_drawn_sheet ["_law_pool_here"] [] := FunD.bindsN F__law_drawn_sheet fun _ _ _ _ _ _ us hl => match us, hl with | [_], _ => rfl
  obtain ⟨fd__law_drawn_deed, F__law_drawn_deed⟩ := c.def_ 27 (d := D__law_drawn_deed) rfl
  have m__law_drawn_deed : mg "_law_drawn_deed" = _ := He.glo_ok X G (c.fact 27 (f := .glo "_law_drawn_deed") rfl)
  have b__law_drawn_deed : Binds K fd__law_drawn_deed ["_law_pool_here"] [] := FunD.bindsN F__law_drawn_deed fun _ _ _ _ _ _ us hl => match us, hl with | [_], _ => rfl
  obtain ⟨fd__law_web_text, F__law_web_text⟩ := c.def_ 28 (d := D__law_web_text) rfl
  have m__law_web_text : mg "_law_web_text" = _ := He.glo_ok X G (c.fact 28 (f := .glo "_law_web_text") rfl)
  have b__law_web_text : Binds K fd__law_web_text ["_law_web_here"] [] := FunD.bindsN F__law_web_text fun _ _ _ _ _ _ us hl => match us, hl with | [_], _ => rfl
  obtain ⟨fd__law_sheet_text, F__law_sheet_text⟩ := c.def_ 29 (d := D__law_sheet_text) rfl
  have m__law_sheet_text : mg "_law_sheet_text" = _ := He.glo_ok X G (c.fact 29 (f := .glo "_law_sheet_text") rfl)
  have b__law_sheet_text : Binds K fd__law_sheet_text ["_law_sheet"] [] := FunD.bindsN F__law_sheet_text fun _ _ _ _ _ _ us hl => match us, hl with | [_], _ => rfl
  obtain ⟨fd__law_deed_text, F__law_deed_text⟩ := c.def_ 30 (d := D__law_deed_text) rfl
  have m__law_deed_text : mg "_law_deed_text" = _ := He.glo_ok X G (c.fact 30 (f := .glo "_law_deed_text") rfl)
  have b__law_deed_text : Binds K fd__law_deed_text ["_law_deed"] [] := FunD.bindsN F__law_deed_text fun _ _ _ _ _ _ us hl => match us, hl with | [_], _ => rfl
  obtain ⟨fd__law_web_refused, F__law_web_refused⟩ := c.def_ 31 (d := D__law_web_refused) rfl
  have m__law_web_refused : mg "_law_web_refused" = _ := He.glo_ok X G (c.fact 31 (f := .glo "_law_web_refused") rfl)
  have b__law_web_refused : Binds K fd__law_web_refused ["_law_thing"] [] := FunD.bindsN F__law_web_refused fun _ _ _ _ _ _ us hl => match us, hl with | [_], _ => rfl
  obtain ⟨fd_law, F_law⟩ := c.def_ 32 (d := D_law) rfl
  have m_law : mg "law" = _ := He.glo_ok X G (c.fact 32 (f := .glo "law") rfl)
  obtain ⟨fi_NoText, I_NoText⟩ := c.def_ 33 (d := D_NoText_init) rfl
  obtain ⟨fi_NoWeb, I_NoWeb⟩ := c.def_ 34 (d := D_NoWeb_init) rfl
  have m_HeraldError : mg "HeraldError" = _ := He.glo_ok X G (c.fact 33 (f := .glo "HeraldError") rfl)
  have m_NoText : mg "NoText" = _ := He.glo_ok X G (c.fact 34 (f := .glo "NoText") rfl)
  have m_NoWeb : mg "NoWeb" = _ := He.glo_ok X G (c.fact 35 (f := .glo "NoWeb") rfl)
  have m_FORMS : mg "FORMS" = _ := He.glo_ok X G (c.fact 36 (f := .glo "FORMS") rfl)
  have GD_FORMS : GDct K w mg "FORMS" kv_FORMS := gdB_ok q_gd_FORMS m_FORMS (cc.t.tab 0 rfl)
  have e := hfa.symm.trans m_law
  cases e
  have b := FunD.bindsA (ps := ["_law_script"]) F_law fun _ _ _ _ _ _ us hl => match us, hl with | [_], _ => rfl
  refine ⟨fd_law, fun s v => b s [v] rfl, fun base _ _ hTB => ?_⟩
  have E_NoText : GotE P w K mg base 1 "NoText" "row" := by
    obtain ⟨o1, y⟩ := He.ba q_r1_NoText
    obtain ⟨o2, o3⟩ := He.ba y
    have sc : FnScope ["self", "row"] ["self", "row"] (defScope (mth (top 3) 0)) := ⟨rfl, rfl, rfl, by decide +kernel, rfl, by decide +kernel, by decide +kernel⟩
    exact ⟨_, _, _, _, m_NoText, oexB_ok o1, (initB_ok o2).1, (initB_ok o2).2, ok_init I_NoText sc (.inl rfl) (.inl rfl) rfl m_HeraldError (baseB_ok q_ba_HeraldError) (oexB_ok o1) (of_decide_eq_true o3), FunD.bindsN I_NoText fun _ _ _ _ _ _ us hl => match us, hl with | [_, _], _ => rfl⟩
  have EH_NoText : GotEH P w K mg base 1 "NoText" "row" := by
    obtain ⟨o1, y⟩ := He.ba q_r1_NoText
    obtain ⟨o2, o3⟩ := He.ba y
    have sc : FnScope ["self", "row"] ["self", "row"] (defScope (mth (top 3) 0)) := ⟨rfl, rfl, rfl, by decide +kernel, rfl, by decide +kernel, by decide +kernel⟩
    exact ⟨_, _, _, _, m_NoText, oexB_ok o1, (initB_ok o2).1, (initB_ok o2).2, ok_initH I_NoText sc (.inl rfl) (.inl rfl) rfl m_HeraldError (baseB_ok q_ba_HeraldError) (oexB_ok o1) (of_decide_eq_true o3), FunD.bindsN I_NoText fun _ _ _ _ _ _ us hl => match us, hl with | [_, _], _ => rfl⟩
  have E_NoWeb : GotE P w K mg base 1 "NoWeb" "number" := by
    obtain ⟨o1, y⟩ := He.ba q_r1_NoWeb
    obtain ⟨o2, o3⟩ := He.ba y
    have sc : FnScope ["self", "number"] ["self", "number"] (defScope (mth (top 2) 0)) := ⟨rfl, rfl, rfl, by decide +kernel, rfl, by decide +kernel, by decide +kernel⟩
    exact ⟨_, _, _, _, m_NoWeb, oexB_ok o1, (initB_ok o2).1, (initB_ok o2).2, ok_init I_NoWeb sc (.inl rfl) (.inl rfl) rfl m_HeraldError (baseB_ok q_ba_HeraldError) (oexB_ok o1) (of_decide_eq_true o3), FunD.bindsN I_NoWeb fun _ _ _ _ _ _ us hl => match us, hl with | [_, _], _ => rfl⟩
  have G_is_whole : Got P w K mg base 1 "is_whole" ["thing"] (spD ⟨K, mg, TT K⟩ [false] .fz g_is_whole) := ⟨_, _, ok_is_whole F_is_whole Z , m_is_whole, F_is_whole.kp, b_is_whole⟩
  have G_is_house : Got P w K mg base 2 "is_house" ["many", "thing"] (spD ⟨K, mg, TT K⟩ [false, false] .fz g_is_house) := ⟨_, _, ok_is_house F_is_house Z G_is_whole, m_is_house, F_is_house.kp, b_is_house⟩
  have G_is_price : Got P w K mg base 2 "is_price" ["thing"] (spD ⟨K, mg, TT K⟩ [false] .fz g_is_price) := ⟨_, _, ok_is_price F_is_price Z G_is_whole, m_is_price, F_is_price.kp, b_is_price⟩
  have G_is_tie : Got P w K mg base 3 "is_tie" ["many", "thing"] (spD ⟨K, mg, TT K⟩ [false, false] .fz g_is_tie) := ⟨_, _, ok_is_tie F_is_tie Z G_is_price G_is_house, m_is_tie, F_is_tie.kp, b_is_tie⟩
  have G_look_at_web : GotX P w K mg base 4 "look_at_web" ["thing"] (spX ⟨K, mg, TT K⟩ [false] .fz g_look_at_web) := ⟨_, _, ok_look_at_web F_look_at_web Z G_is_whole G_is_tie E_NoWeb, m_look_at_web, F_look_at_web.kp, b_look_at_web⟩
  have GY_look_at_web : GotXY P w K mg base 4 "look_at_web" ["thing"] (spX ⟨K, mg, TT K⟩ [false] .fz g_look_at_web) := ⟨_, _, okY_look_at_web F_look_at_web Z G_is_whole G_is_tie E_NoWeb, m_look_at_web, F_look_at_web.kp, b_look_at_web⟩
  have G_is_told_tie : Got P w K mg base 3 "is_told_tie" ["house", "thing"] (spD ⟨K, mg, TT K⟩ [false, false] .fz g_is_told_tie) := ⟨_, _, ok_is_told_tie F_is_told_tie Z G_is_house G_is_price, m_is_told_tie, F_is_told_tie.kp, b_is_told_tie⟩
  have G_are_told_ties : Got P w K mg base 4 "are_told_ties" ["house", "thing"] (spD ⟨K, mg, TT K⟩ [false, false] .fz g_are_told_ties) := ⟨_, _, ok_are_told_ties F_are_told_ties Z G_is_told_tie, m_are_told_ties, F_are_told_ties.kp, b_are_told_ties⟩
  have G_is_sheet : Got P w K mg base 5 "is_sheet" ["thing"] (spD ⟨K, mg, TT K⟩ [false] .fz g_is_sheet) := ⟨_, _, ok_is_sheet F_is_sheet Z G_is_whole G_is_house G_are_told_ties, m_is_sheet, F_is_sheet.kp, b_is_sheet⟩
  have G_is_figures : Got P w K mg base 1 "is_figures" ["word"] (spD ⟨K, mg, TT K⟩ [false] .fz g_is_figures) := ⟨_, _, ok_is_figures F_is_figures Z , m_is_figures, F_is_figures.kp, b_is_figures⟩
  have G_are_figures : Got P w K mg base 2 "are_figures" ["words"] (spD ⟨K, mg, TT K⟩ [false] .fz g_are_figures) := ⟨_, _, ok_are_figures F_are_figures Z G_is_figures, m_are_figures, F_are_figures.kp, b_are_figures⟩
  have G_look_at_text : GotX P w K mg base 3 "look_at_text" ["text"] (spX ⟨K, mg, TT K⟩ [false] .fz g_look_at_text) := ⟨_, _, ok_look_at_text F_look_at_text Z  E_NoText, m_look_at_text, F_look_at_text.kp, b_look_at_text⟩
  have G_shown_web : GotX P w K mg base 5 "shown_web" ["web"] (spX ⟨K, mg, TT K⟩ [false] .fz g_shown_web) := ⟨_, _, ok_shown_web F_shown_web Z G_look_at_web, m_shown_web, F_shown_web.kp, b_shown_web⟩
  have G_read_web : GotX P w K mg base 5 "read_web" ["text"] (spX ⟨K, mg, TT K⟩ [false] (.tr (.tp (.cn "" .fz (.cn "" (.ls .fz) .nl)))) g_read_web) := ⟨_, _, ok_read_web F_read_web Z G_look_at_text G_look_at_web G_is_figures G_are_figures GY_look_at_web E_NoText E_NoWeb EH_NoText, m_read_web, F_read_web.kp, b_read_web⟩
  have G_shown_sheet : Got P w K mg base 1 "shown_sheet" ["sheet"] (spD ⟨K, mg, TT K⟩ [false] .fz g_shown_sheet) := ⟨_, _, ok_shown_sheet F_shown_sheet Z , m_shown_sheet, F_shown_sheet.kp, b_shown_sheet⟩
  have G_tie_of : Got P w K mg base 3 "tie_of" ["word"] (spD ⟨K, mg, TT K⟩ [false] .fz g_tie_of) := ⟨_, _, ok_tie_of F_tie_of Z G_are_figures, m_tie_of, F_tie_of.kp, b_tie_of⟩
  have G_read_sheet : GotX P w K mg base 6 "read_sheet" ["text"] (spX ⟨K, mg, TT K⟩ [false] .fz g_read_sheet) := ⟨_, _, ok_read_sheet F_read_sheet Z G_look_at_text G_tie_of G_is_sheet G_are_figures E_NoText, m_read_sheet, F_read_sheet.kp, b_read_sheet⟩
  have G_shown_deed : Got P w K mg base 1 "shown_deed" ["deed"] (spD ⟨K, mg, TT K⟩ [false] .fz g_shown_deed) := ⟨_, _, ok_shown_deed F_shown_deed Z , m_shown_deed, F_shown_deed.kp, b_shown_deed⟩
  have G_shown_history : Got P w K mg base 2 "shown_history" ["history"] (spD ⟨K, mg, TT K⟩ [false] .fz g_shown_history) := ⟨_, _, ok_shown_history F_shown_history Z G_shown_deed, m_shown_history, F_shown_history.kp, b_shown_history⟩
  have G_is_given : Got P w K mg base 2 "is_given" ["sort", "word"] (spD ⟨K, mg, TT K⟩ [false, false] .fz g_is_given) := ⟨_, _, ok_is_given F_is_given Z G_is_figures, m_is_given, F_is_given.kp, b_is_given⟩
  have G_deed_of : Got P w K mg base 3 "deed_of" ["row"] (spD ⟨K, mg, TT K⟩ [false] .fz g_deed_of) := ⟨_, _, ok_deed_of F_deed_of Z G_is_given GD_FORMS, m_deed_of, F_deed_of.kp, b_deed_of⟩
  have G_read_history : GotX P w K mg base 4 "read_history" ["text"] (spX ⟨K, mg, TT K⟩ [false] .nw g_read_history) := ⟨_, _, ok_read_history F_read_history Z G_look_at_text G_deed_of E_NoText, m_read_history, F_read_history.kp, b_read_history⟩
  have G__law_cell_at : Got P w K mg base 1 "_law_cell_at" ["_law_script", "_law_k"] (spD ⟨K, mg, TT K⟩ [false, false] .fz g__law_cell_at) := ⟨_, _, ok__law_cell_at F__law_cell_at Z , m__law_cell_at, F__law_cell_at.kp, b__law_cell_at⟩
  have G__law_pool : Got P w K mg base 2 "_law_pool" ["_law_script", "_law_k"] (spD ⟨K, mg, TT K⟩ [false, false] .nw g__law_pool) := ⟨_, _, ok__law_pool F__law_pool Z G__law_cell_at, m__law_pool, F__law_pool.kp, b__law_pool⟩
  have G__law_take : Got P w K mg base 1 "_law_take" ["_law_pool_here", "_law_many"] (spD ⟨K, mg, TT K⟩ [true, false] .fz g__law_take) := ⟨_, _, ok__law_take F__law_take Z , m__law_take, F__law_take.kp, b__law_take⟩
  have G__law_price : Got P w K mg base 2 "_law_price" ["_law_pool_here"] (spD ⟨K, mg, TT K⟩ [true] .fz g__law_price) := ⟨_, _, ok__law_price F__law_price Z G__law_take, m__law_price, F__law_price.kp, b__law_price⟩
  have G__law_web : Got P w K mg base 3 "_law_web" ["_law_pool_here", "_law_most"] (spD ⟨K, mg, TT K⟩ [true, false] .fz g__law_web) := ⟨_, _, ok__law_web F__law_web Z G__law_take G__law_price, m__law_web, F__law_web.kp, b__law_web⟩
  have G__law_drawn_sheet : Got P w K mg base 3 "_law_drawn_sheet" ["_law_pool_here"] (spD ⟨K, mg, TT K⟩ [true] .fz g__law_drawn_sheet) := ⟨_, _, ok__law_drawn_sheet F__law_drawn_sheet Z G__law_take G__law_price, m__law_drawn_sheet, F__law_drawn_sheet.kp, b__law_drawn_sheet⟩
  have G__law_drawn_deed : Got P w K mg base 2 "_law_drawn_deed" ["_law_pool_here"] (spD ⟨K, mg, TT K⟩ [true] .fz g__law_drawn_deed) := ⟨_, _, ok__law_drawn_deed F__law_drawn_deed Z G__law_take, m__law_drawn_deed, F__law_drawn_deed.kp, b__law_drawn_deed⟩
  have G__law_web_text : Got P w K mg base 1 "_law_web_text" ["_law_web_here"] (spD ⟨K, mg, TT K⟩ [false] .fz g__law_web_text) := ⟨_, _, ok__law_web_text F__law_web_text Z , m__law_web_text, F__law_web_text.kp, b__law_web_text⟩
  have G__law_sheet_text : Got P w K mg base 1 "_law_sheet_text" ["_law_sheet"] (spD ⟨K, mg, TT K⟩ [false] .fz g__law_sheet_text) := ⟨_, _, ok__law_sheet_text F__law_sheet_text Z , m__law_sheet_text, F__law_sheet_text.kp, b__law_sheet_text⟩
  have G__law_deed_text : Got P w K mg base 1 "_law_deed_text" ["_law_deed"] (spD ⟨K, mg, TT K⟩ [false] .fz g__law_deed_text) := ⟨_, _, ok__law_deed_text F__law_deed_text Z , m__law_deed_text, F__law_deed_text.kp, b__law_deed_text⟩
  have G__law_web_refused : Got P w K mg base 6 "_law_web_refused" ["_law_thing"] (spD ⟨K, mg, TT K⟩ [false] .nw g__law_web_refused) := ⟨_, _, ok__law_web_refused F__law_web_refused Z G_shown_web, m__law_web_refused, F__law_web_refused.kp, b__law_web_refused⟩
  exact ok_law F_law Z G__law_pool G__law_web G__law_drawn_sheet G__law_drawn_deed G__law_web_text G__law_sheet_text G_read_history G_shown_history G_shown_web G_shown_sheet G_read_web G_read_sheet G__law_take G__law_deed_text G__law_web_refused
end K58
namespace DL
open PySem L2
theorem isi_def (U : String) (d : D) (h : plainTy d = true) : gIsi U d = some (.bool (isT (tyN d) U)) := by simp [gIsi, h]
theorem add_tup (a b : List D) : gAdd (.tuple a) (.tuple b) = if a.length + b.length ≤ 100000 then some (.tuple (a ++ b)) else none := rfl
theorem add_lst (a b : List D) : gAdd (.list a) (.list b) = if a.length + b.length ≤ 100000 then some (.list (a ++ b)) else none := rfl
theorem muls_int (a b : Int) : gMuls (.int a) (.int b) = gInt2 (fun i j => (decide (-(2 ^ 64) < i) && decide (i < 2 ^ 64)) || (decide (-(2 ^ 64) < j) && decide (j < 2 ^ 64))) (fun i j => i * j) (.int a) (.int b) := rfl
theorem int2_int (C : Int → Int → Bool) (g : Int → Int → Int) (a b : Int) : gInt2 C g (.int a) (.int b) = if C a b = true then some (.int (g a b)) else none := rfl
theorem shaped_int (a : Int) : SeqAt.shaped (.int a) = true := rfl
theorem shaped_bool (a : Bool) : SeqAt.shaped (.bool a) = true := rfl
theorem eq_int (a b : Int) : gEq (.int a) (.int b) = some (.bool (a == b)) := by
  simp [gEq, gEqq, noDct, shaped_int, PyData.eqv]
theorem ne_int (a b : Int) : gNe (.int a) (.int b) = some (.bool (!(a == b))) := by
  simp [gNe, gEqq, noDct, shaped_int, PyData.eqv]
theorem eq_bool (a b : Bool) : gEq (.bool a) (.bool b) = some (.bool (a == b)) := by
  simp [gEq, gEqq, noDct, shaped_bool, PyData.eqv]
theorem ne_bool (a b : Bool) : gNe (.bool a) (.bool b) = some (.bool (!(a == b))) := by
  simp [gNe, gEqq, noDct, shaped_bool, PyData.eqv]
theorem eq_str (a b : Str) : gEq (.str a) (.str b) = some (.bool (a == b)) := by
  unfold gEq gEqq
  split <;> simp [PyData.eqv]
theorem ne_str (a b : Str) : gNe (.str a) (.str b) = some (.bool (!(a == b))) := by
  unfold gNe gEqq
  split <;> simp [PyData.eqv]
def lvL (n : Nat) : Nat → Nat
  | 0 => 70
  | k + 1 => n * (lvL n k + 2) + 73
structure LvOk (n k : Nat) (d : D) : Prop where
  scr : noScr d = true
  sho : d.showable = true
  nod : d.hasDict = false
  dep : d.depth ≤ k
  len : d.shown.length ≤ lvL n k
  lay : d.canLay0 = true
  nd : noDct d = true
  ty : plainTy d = true
structure LvAll (n k : Nat) (ds : List D) : Prop where
  scr : noScrs ds = true
  sho : PyData.showableAll ds = true
  nod : PyData.hasDictAll ds = false
  dep : PyData.depthAll ds ≤ k
  len : ((PyData.shownAll ds).map (·.length)).sum + 2 * ds.length ≤ ds.length * (lvL n k + 2)
  lay : PyData.canLayAll0 ds = true
  nd : noDcts ds = true
theorem LvAll.of {n k : Nat} : ∀ {ds : List D}, (∀ d ∈ ds, LvOk n k d) → LvAll n k ds
  | [], _ => ⟨rfl, rfl, rfl, Nat.zero_le _, by simp [PyData.shownAll], rfl, rfl⟩
  | d :: ds, h => by
    have a := h d List.mem_cons_self
    have b := LvAll.of (n := n) (k := k) (ds := ds) fun x hx => h x (List.mem_cons_of_mem _ hx)
    refine ⟨by simp [noScrs, a.scr, b.scr], by simp [PyData.showableAll, a.sho, b.sho], by simp [PyData.hasDictAll, a.nod, b.nod], Nat.max_le.mpr ⟨a.dep, b.dep⟩, ?_, by simp [PyData.canLayAll0, a.lay, b.lay], by simp [noDcts, a.nd, b.nd]⟩
    have h1 := a.len
    have h2 := b.len
    simp only [PyData.shownAll, List.map_cons, List.sum_cons, List.length_cons, Nat.add_mul] at h2 ⊢
    omega
theorem big62 {i : Int} (h : i.natAbs < 10 ^ 60) : (PyData.shown (.int i)).length ≤ 61 := by
  have e := int_text_length_le10 (k := 60) (by decide) h
  show (Str.ofString (toString i)).length ≤ 61
  rw [ofString_length]; exact e
theorem log62 {i : Int} (h : i.natAbs < 10 ^ 60) : i.natAbs.log2 < 1920 := by
  by_cases z : i.natAbs = 0
  · rw [z]; decide
  · exact (Nat.log2_lt z).mpr (Nat.lt_of_lt_of_le h (by decide +kernel))
theorem LvOk.repr {n k : Nat} {d : D} (h : LvOk n k d) (hk : k ≤ 60) (hl : lvL n k ≤ 16000000) : gRepr d = some (.str d.shown) := by
  have e : reprOk d = true := by
    have := h.dep
    have := h.len
    simp [reprOk, h.scr, h.sho, h.nod]
    omega
  simp [gRepr, e]
theorem LvOk.shaped {n k : Nat} {d : D} (h : LvOk n k d) (hk : k ≤ 60) : SeqAt.shaped d = true := by
  have := h.dep
  simp [SeqAt.shaped, h.lay]
  omega
theorem LvOk.eq {n k m j : Nat} {d e : D} (h : LvOk n k d) (g : LvOk m j e) (hk : k ≤ 60) (hj : j ≤ 60) : gEq d e = some (.bool (PyData.eqv d e)) := by
  simp [gEq, gEqq, h.nd, g.nd, h.shaped hk, g.shaped hj]
theorem LvOk.ne {n k m j : Nat} {d e : D} (h : LvOk n k d) (g : LvOk m j e) (hk : k ≤ 60) (hj : j ≤ 60) : gNe d e = some (.bool (!PyData.eqv d e)) := by
  simp [gNe, gEqq, h.nd, g.nd, h.shaped hk, g.shaped hj]
end DL
namespace DL
open PySem L2
def Wd (f : Df) (e : En) (Q : D → En → Prop) : Prop := ∃ d e', f e = some (d, e') ∧ Q d e'
def Wo (o : Opd) (e : En) (Q : OV → En → Prop) : Prop := ∃ u e', o.ev e = some (u, e') ∧ Q u e'
def Wb (f : Bf) (e : En) (Q : Bool → En → Prop) : Prop := ∃ b e', f e = some (b, e') ∧ Q b e'
def Wv (os : List Opd) (e : En) (Q : List OV → En → Prop) : Prop := ∃ us e', evs os e = some (us, e') ∧ Q us e'
def Wl (u : OV) (e : En) (Q : D → Prop) : Prop := ∃ d, u.look e = some d ∧ Q d
def Wk (us : List OV) (e : En) (Q : List D → Prop) : Prop := ∃ ds, looks us e = some ds ∧ Q ds
def Wx (x : Option D) (Q : D → Prop) : Prop := ∃ d, x = some d ∧ Q d
def We (x : Option En) (Q : En → Prop) : Prop := ∃ d, x = some d ∧ Q d
def Wy (x : Option (List D)) (Q : List D → Prop) : Prop := ∃ d, x = some d ∧ Q d
def Wf (x : Option (D × List D)) (Q : D → List D → Prop) : Prop := ∃ d os, x = some (d, os) ∧ Q d os
def Ws (f : Sf) (e : En) (Q : Rs → Prop) : Prop := ∃ r, f e = some r ∧ Q r
def Wi (f : If) (e : En) (Q : List D → En → Prop) : Prop := ∃ ds e', f e = some (ds, e') ∧ Q ds e'
def Wp (f : Pf) (e : En) (Q : Option Int → En → Prop) : Prop := ∃ ds e', f e = some (ds, e') ∧ Q ds e'
def Wc (b : Bool) (A B : Prop) : Prop := (b = true → A) ∧ (b = false → B)
section
variable {f g : Df} {a b c : Opd} {e : En} {i j : Nat} {d x y : D} {Q : D → En → Prop} {p q : Bf} {os : List Opd}
theorem wc_t {A B : Prop} (h : A) : Wc true A B := ⟨fun _ => h, nofun⟩
theorem wc_f {A B : Prop} (h : B) : Wc false A B := ⟨nofun, fun _ => h⟩
theorem wc_s {b : Bool} {A B : Prop} (h1 : b = true → A) (h2 : b = false → B) : Wc b A B := ⟨h1, h2⟩
theorem wd_var (h : e[i]? = some (.fz d)) (k : Q d e) : Wd (eVar i) e Q := ⟨d, e, by simp [eVar, h], k⟩
theorem wd_varO (h : e[i]? = some (.ow d)) (k : Q d (e.set i (.fz d))) : Wd (eVar i) e Q := ⟨d, _, by simp [eVar, h], k⟩
theorem wd_c (k : Q d e) : Wd (eC d) e Q := ⟨d, e, rfl, k⟩
theorem wo_ex {Q : OV → En → Prop} (h : Wd f e fun d e => Q (.fz d) e) : Wo (.ex f) e Q := by
  obtain ⟨d, e', h, k⟩ := h
  exact ⟨_, e', by simp [Opd.ev, h], k⟩
theorem wo_f {Q : OV → En → Prop} (h : e[i]? = some (.fz d)) (k : Q (.fz d) e) : Wo (.vr i) e Q := ⟨_, _, by simp [Opd.ev, slotV, h], k⟩
theorem wo_o {Q : OV → En → Prop} (h : e[i]? = some (.ow d)) (k : Q (.sl i) e) : Wo (.vr i) e Q := ⟨_, _, by simp [Opd.ev, slotV, h], k⟩
theorem wo_p {Q : OV → En → Prop} (h : e[i]? = some (.pw d)) (k : Q (.sl i) e) : Wo (.vr i) e Q := ⟨_, _, by simp [Opd.ev, slotV, h], k⟩
theorem wl_f {Q : D → Prop} (k : Q d) : Wl (.fz d) e Q := ⟨_, rfl, k⟩
theorem wl_s {Q : D → Prop} (h : slotD e[i]? = some d) (k : Q d) : Wl (.sl i) e Q := ⟨_, h, k⟩
theorem wv_nil {Q : List OV → En → Prop} (k : Q [] e) : Wv [] e Q := ⟨_, _, rfl, k⟩
theorem wv_cons {Q : List OV → En → Prop} (h : Wo a e fun u e => Wv os e fun us e => Q (u :: us) e) : Wv (a :: os) e Q := by
  obtain ⟨u, e1, h1, us, e2, h2, k⟩ := h
  exact ⟨_, _, by simp [evs, h1, h2], k⟩
theorem wk_nil {Q : List D → Prop} (k : Q []) : Wk [] e Q := ⟨_, rfl, k⟩
theorem wk_cons {Q : List D → Prop} {u : OV} {us : List OV} (h : Wl u e fun d => Wk us e fun ds => Q (d :: ds)) : Wk (u :: us) e Q := by
  obtain ⟨d, h1, ds, h2, k⟩ := h
  exact ⟨_, by simp [looks, h1, h2], k⟩
theorem wx_eq {o : Option D} {Q : D → Prop} (h : o = some d) (k : Q d) : Wx o Q := ⟨_, h, k⟩
theorem wx_i2 {C : Int → Int → Bool} {h : Int → Int → Int} {m n : Int} {Q : D → Prop} (hc : C m n = true) (k : Q (.int (h m n))) : Wx (gInt2 C h (.int m) (.int n)) Q := ⟨_, by simp [int2_int, hc], k⟩
theorem wx_mul {m n : Int} {Q : D → Prop} (hc : (-18446744073709551616 < m ∧ m < 18446744073709551616) ∨ (-18446744073709551616 < n ∧ n < 18446744073709551616)) (k : Q (.int (m * n))) : Wx (gMuls (.int m) (.int n)) Q := by
  rw [muls_int]
  exact wx_i2 (by simp only [Bool.or_eq_true, Bool.and_eq_true, decide_eq_true_eq]; omega) k
theorem wx_pow {m n : Int} {Q : D → Prop} (hc : 0 ≤ n ∧ n ≤ 1000 ∧ m.natAbs < 18446744073709551616) (k : Q (.int (m ^ n.toNat))) : Wx (gPow (.int m) (.int n)) Q := wx_i2 (by simp only [Bool.and_eq_true, decide_eq_true_eq]; omega) k
theorem wx_mod {m n : Int} {Q : D → Prop} (hc : 0 < n) (k : Q (.int (m % n))) : Wx (gMod (.int m) (.int n)) Q := wx_i2 (decide_eq_true hc) k
theorem wx_div {m n : Int} {Q : D → Prop} (hc : 0 < n) (hl : n.natAbs.log2 < 9000) (k : Q (.int (m / n))) : Wx (gDiv (.int m) (.int n)) Q := wx_i2 (by simp [hc, hl]) k
theorem wx_addT {m n : List D} {Q : D → Prop} (hc : m.length + n.length ≤ 100000) (k : Q (.tuple (m ++ n))) : Wx (gAdd (.tuple m) (.tuple n)) Q := ⟨_, by simp [add_tup, hc], k⟩
theorem wx_addL {m n : List D} {Q : D → Prop} (hc : m.length + n.length ≤ 100000) (k : Q (.list (m ++ n))) : Wx (gAdd (.list m) (.list n)) Q := ⟨_, by simp [add_lst, hc], k⟩
theorem wx_eqI {m n : Int} {Q : D → Prop} (k : Q (.bool (m == n))) : Wx (gEq (.int m) (.int n)) Q := ⟨_, eq_int m n, k⟩
theorem wx_neI {m n : Int} {Q : D → Prop} (k : Q (.bool (!(m == n)))) : Wx (gNe (.int m) (.int n)) Q := ⟨_, ne_int m n, k⟩
theorem wx_eqB {m n : Bool} {Q : D → Prop} (k : Q (.bool (m == n))) : Wx (gEq (.bool m) (.bool n)) Q := ⟨_, eq_bool m n, k⟩
theorem wx_neB {m n : Bool} {Q : D → Prop} (k : Q (.bool (!(m == n)))) : Wx (gNe (.bool m) (.bool n)) Q := ⟨_, ne_bool m n, k⟩
theorem wx_eqS {m n : Str} {Q : D → Prop} (k : Q (.bool (m == n))) : Wx (gEq (.str m) (.str n)) Q := ⟨_, eq_str m n, k⟩
theorem wx_neS {m n : Str} {Q : D → Prop} (k : Q (.bool (!(m == n)))) : Wx (gNe (.str m) (.str n)) Q := ⟨_, ne_str m n, k⟩
theorem wx_lt {m n : Int} {Q : D → Prop} (k : Q (.bool (decide (m < n)))) : Wx (gLt (.int m) (.int n)) Q := ⟨_, rfl, k⟩
theorem wx_le {m n : Int} {Q : D → Prop} (k : Q (.bool (decide (m ≤ n)))) : Wx (gLe (.int m) (.int n)) Q := ⟨_, rfl, k⟩
theorem wx_gt {m n : Int} {Q : D → Prop} (k : Q (.bool (decide (n < m)))) : Wx (gGt (.int m) (.int n)) Q := ⟨_, rfl, k⟩
theorem wx_ge {m n : Int} {Q : D → Prop} (k : Q (.bool (decide (n ≤ m)))) : Wx (gGe (.int m) (.int n)) Q := ⟨_, rfl, k⟩
theorem atI_get {α : Type} {xs : List α} {i : Int} {x : α} (h0 : 0 ≤ i) (h : xs[i.toNat]? = some x) : atI xs i = some x := by
  obtain ⟨hi, _⟩ := List.getElem?_eq_some_iff.mp h
  have e : ixN xs.length i = some i.toNat := by
    unfold ixN
    rw [if_pos h0, if_pos (by omega)]
  simp [atI, e, h]
theorem ixs_of {x y d : D} (h : gIx x y = some d) : gIxs x y = some d := by simp [gIxs, h]
theorem wx_ixsL {ds : List D} {i : Int} {Q : D → Prop} (h0 : 0 ≤ i) (h : ds[i.toNat]? = some d) (k : Q d) : Wx (gIxs (.list ds) (.int i)) Q := ⟨_, ixs_of (atI_get h0 h), k⟩
theorem wx_ixsS {ds : List D} {i : Int} {Q : D → Prop} (h0 : 0 ≤ i) (h : ds[i.toNat]? = some d) (k : Q d) : Wx (gIxs (.dict [(.none, .list ds)]) (.int i)) Q := ⟨_, ixs_of (atI_get h0 h), k⟩
theorem wq_ixs {x y : D} {Q : D → Prop} (h : gIxs x y = some d) (k : Q d) : Wx (gIxs x y) Q := ⟨_, h, k⟩
theorem wq_in {x y : D} {Q : D → Prop} (h : gIn x y = some d) (k : Q d) : Wx (gIn x y) Q := ⟨_, h, k⟩
theorem wq_isi {U : String} {x : D} {Q : D → Prop} (h : gIsi U x = some d) (k : Q d) : Wx (gIsi U x) Q := ⟨_, h, k⟩
theorem wq_len {xs : List D} {Q : D → Prop} (h : gLen xs = some d) (k : Q d) : Wx (gLen xs) Q := ⟨_, h, k⟩
theorem wq_ix {x y : D} {Q : D → Prop} (h : gIx x y = some d) (k : Q d) : Wx (gIx x y) Q := ⟨_, h, k⟩
theorem wq_add {x y : D} {Q : D → Prop} (h : gAdd x y = some d) (k : Q d) : Wx (gAdd x y) Q := ⟨_, h, k⟩
theorem wq_sub {x y : D} {Q : D → Prop} (h : gSub x y = some d) (k : Q d) : Wx (gSub x y) Q := ⟨_, h, k⟩
theorem wq_neg {x : D} {Q : D → Prop} (h : gNeg x = some d) (k : Q d) : Wx (gNeg x) Q := ⟨_, h, k⟩
theorem wq_rev {x : D} {Q : D → Prop} (h : gRev x = some d) (k : Q d) : Wx (gRev x) Q := ⟨_, h, k⟩
theorem wq_cut {x : D} {l r : Option Int} {Q : D → Prop} (h : gCut x l r = some d) (k : Q d) : Wx (gCut x l r) Q := ⟨_, h, k⟩
theorem wq_int {xs : List D} {Q : D → Prop} (h : gInt xs = some d) (k : Q d) : Wx (gInt xs) Q := ⟨_, h, k⟩
theorem wq_lst {xs : List D} {Q : D → Prop} (h : gList xs = some d) (k : Q d) : Wx (gList xs) Q := ⟨_, h, k⟩
theorem wq_tup {xs : List D} {Q : D → Prop} (h : gTuple xs = some d) (k : Q d) : Wx (gTuple xs) Q := ⟨_, h, k⟩
theorem wq_max {xs : List D} {Q : D → Prop} (h : gMax2 xs = some d) (k : Q d) : Wx (gMax2 xs) Q := ⟨_, h, k⟩
theorem wq_min {xs : List D} {Q : D → Prop} (h : gMin2 xs = some d) (k : Q d) : Wx (gMin2 xs) Q := ⟨_, h, k⟩
theorem wq_all {xs : List D} {Q : D → Prop} (h : gAll xs = some d) (k : Q d) : Wx (gAll xs) Q := ⟨_, h, k⟩
theorem wq_repr {x : D} {Q : D → Prop} (h : gRepr x = some d) (k : Q d) : Wx (gRepr x) Q := ⟨_, h, k⟩
theorem wq_eq {x y : D} {Q : D → Prop} (h : gEq x y = some d) (k : Q d) : Wx (gEq x y) Q := ⟨_, h, k⟩
theorem wq_ne {x y : D} {Q : D → Prop} (h : gNe x y = some d) (k : Q d) : Wx (gNe x y) Q := ⟨_, h, k⟩
theorem wq_isiT {U : String} {x : D} {Q : D → Prop} (h : gIsi U x = some (.bool true)) (k : Q (.bool true)) : Wx (gIsi U x) Q := ⟨_, h, k⟩
theorem wq_isiF {U : String} {x : D} {Q : D → Prop} (h : gIsi U x = some (.bool false)) (k : Q (.bool false)) : Wx (gIsi U x) Q := ⟨_, h, k⟩
theorem wc_T {b : Bool} {A B : Prop} (h : b = true) (k : A) : Wc b A B := ⟨fun _ => k, fun z => by rw [h] at z; cases z⟩
theorem wc_F {b : Bool} {A B : Prop} (h : b = false) (k : B) : Wc b A B := ⟨fun z => (by rw [h] at z; cases z), fun _ => k⟩
theorem and_put {s : Option Sv} {B : Prop} (h : mayPut s = true) (k : B) : mayPut s = true ∧ B := ⟨h, k⟩
theorem and_len {ds : List D} {B : Prop} (h : ds.length ≤ 100000) (k : B) : ds.length ≤ 100000 ∧ B := ⟨h, k⟩
theorem wd_op1 {g : D → Option D} (h : Wo a e fun u e => Wl u e fun x => Wx (g x) fun d => Q d e) : Wd (op1 g a) e Q := by
  obtain ⟨u, e1, h1, x, h2, d, h3, k⟩ := h
  exact ⟨_, _, by simp [op1, h1, h2, h3], k⟩
theorem wd_op2 {g : D → D → Option D} (h : Wo a e fun u e => Wo b e fun v e => Wl u e fun x => Wl v e fun y => Wx (g x y) fun d => Q d e) : Wd (op2 g a b) e Q := by
  obtain ⟨u, e1, h1, v, e2, h2, x, h3, y, h4, d, h5, k⟩ := h
  exact ⟨_, _, by simp [op2, h1, h2, h3, h4, h5], k⟩
theorem wd_opA {g : List D → Option D} (h : Wv os e fun us e => Wk us e fun xs => Wx (g xs) fun d => Q d e) : Wd (opA g os) e Q := by
  obtain ⟨u, e1, h1, x, h2, d, h3, k⟩ := h
  exact ⟨_, _, by simp [opA, h1, h2, h3], k⟩
theorem wb_d {Q : Bool → En → Prop} (h : Wd f e fun d e => ∃ b, d = .bool b ∧ Q b e) : Wb (bD f) e Q := by
  obtain ⟨_, e1, h1, b, rfl, k⟩ := h
  exact ⟨_, _, by simp [bD, h1], k⟩
theorem wb_and {Q : Bool → En → Prop} (h : Wb p e fun b e => Wc b (Wb q e Q) (Q false e)) : Wb (bAnd p q) e Q := by
  obtain ⟨b, e1, h1, k⟩ := h
  cases b
  · exact ⟨_, _, by simp [bAnd, h1], k.2 rfl⟩
  · obtain ⟨b2, e2, h2, k⟩ := k.1 rfl
    exact ⟨_, _, by simp [bAnd, h1, h2], k⟩
theorem wb_or {Q : Bool → En → Prop} (h : Wb p e fun b e => Wc b (Q true e) (Wb q e Q)) : Wb (bOr p q) e Q := by
  obtain ⟨b, e1, h1, k⟩ := h
  cases b
  · obtain ⟨b2, e2, h2, k⟩ := k.2 rfl
    exact ⟨_, _, by simp [bOr, h1, h2], k⟩
  · exact ⟨_, _, by simp [bOr, h1], k.1 rfl⟩
theorem wb_not {Q : Bool → En → Prop} (h : Wb p e fun b e => Q (!b) e) : Wb (bNot p) e Q := by
  obtain ⟨b, e1, h1, k⟩ := h
  exact ⟨_, _, by simp [bNot, h1], k⟩
theorem wb_tt {Q : Bool → En → Prop} (k : Q true e) : Wb bTrue e Q := ⟨_, _, rfl, k⟩
theorem wd_and (h : Wd f e fun d e => ∃ b, d = .bool b ∧ Wc b (Wd g e Q) (Q (.bool false) e)) : Wd (eAnd f g) e Q := by
  obtain ⟨_, e1, h1, b, rfl, k⟩ := h
  cases b
  · exact ⟨_, _, by simp [eAnd, bD, h1], k.2 rfl⟩
  · obtain ⟨b2, e2, h2, k⟩ := k.1 rfl
    exact ⟨_, _, by simp [eAnd, bD, h1, h2], k⟩
theorem wd_or (h : Wd f e fun d e => ∃ b, d = .bool b ∧ Wc b (Q (.bool true) e) (Wd g e Q)) : Wd (eOr f g) e Q := by
  obtain ⟨_, e1, h1, b, rfl, k⟩ := h
  cases b
  · obtain ⟨b2, e2, h2, k⟩ := k.2 rfl
    exact ⟨_, _, by simp [eOr, bD, h1, h2], k⟩
  · exact ⟨_, _, by simp [eOr, bD, h1], k.1 rfl⟩
theorem wd_not (h : Wd f e fun d e => ∃ b, d = .bool b ∧ Q (.bool (!b)) e) : Wd (eNot f) e Q := by
  obtain ⟨_, e1, h1, b, rfl, k⟩ := h
  exact ⟨_, _, by simp [eNot, bD, h1], k⟩
theorem wd_if (h : Wb p e fun b e => Wc b (Wd f e Q) (Wd g e Q)) : Wd (eIf p f g) e Q := by
  obtain ⟨b, e1, h1, k⟩ := h
  cases b
  · obtain ⟨b2, e2, h2, k⟩ := k.2 rfl
    exact ⟨_, _, by simp [eIf, h1, h2], k⟩
  · obtain ⟨b2, e2, h2, k⟩ := k.1 rfl
    exact ⟨_, _, by simp [eIf, h1, h2], k⟩
theorem wd_chain {g h : D → D → Option D} (k : Wo a e fun u e => Wo b e fun v e => Wl u e fun x => Wl v e fun y => Wx (g x y) fun d => ∃ t, d = .bool t ∧ Wc t (Wo c e fun w e => Wl v e fun y => Wl w e fun z => Wx (h y z) fun d => Q d e) (Q (.bool false) e)) : Wd (eChain g h a b c) e Q := by
  obtain ⟨u, e1, h1, v, e2, h2, x, h3, y, h4, _, h5, t, rfl, k⟩ := k
  cases t
  · exact ⟨_, _, by simp [eChain, h1, h2, h3, h4, h5], k.2 rfl⟩
  · obtain ⟨w, e3, g1, y', g2, z, g3, d, g4, k⟩ := k.1 rfl
    exact ⟨_, _, by simp [eChain, h1, h2, h3, h4, h5, g1, g2, g3, g4], k⟩
theorem wd_tup (h : Wv os e fun us e => Wy (fzAll us) fun ds => ds.length ≤ 100000 ∧ Q (.tuple ds) e) : Wd (eTup os) e Q := by
  obtain ⟨us, e1, h1, ds, h2, hl, k⟩ := h
  exact ⟨_, _, by simp [eTup, h1, h2, hl], k⟩
theorem wd_lst (h : Wv os e fun us e => Wy (fzAll us) fun ds => ds.length ≤ 100000 ∧ Q (.list ds) e) : Wd (eLst os) e Q := by
  obtain ⟨us, e1, h1, ds, h2, hl, k⟩ := h
  exact ⟨_, _, by simp [eLst, h1, h2, hl], k⟩
theorem wy_eq {o : Option (List D)} {ds : List D} {Q : List D → Prop} (h : o = some ds) (k : Q ds) : Wy o Q := ⟨_, h, k⟩
theorem we_eq {o : Option En} {ds : En} {Q : En → Prop} (h : o = some ds) (k : Q ds) : We o Q := ⟨_, h, k⟩
theorem wd_call {fl : List Bool} {g : List D → Option (D × List D)} (h : Wv os e fun us e => Wy (callIn fl us e) fun ds => Wf (g ds) fun d outs => We (putBack (callSl us) outs e) fun e => Q d e) : Wd (eCall fl g os) e Q := by
  obtain ⟨us, e1, h1, ds, h2, d, outs, h3, e2, h4, k⟩ := h
  exact ⟨_, _, by simp [eCall, h1, h2, h3, h4], k⟩
theorem wd_meth {g : List D → D → Option D} (h : Wy (ownL e[i]?) fun _ => Wv os e fun us e => Wy (fzAll us) fun ds => We (chgAt i (g ds) e) fun e => Q .none e) : Wd (eMeth i g os) e Q := by
  obtain ⟨ls, h0, us, e1, h1, ds, h2, e2, h3, k⟩ := h
  exact ⟨_, _, by simp [eMeth, h0, h1, h2, h3], k⟩
theorem wp_no {Q : Option Int → En → Prop} (k : Q none e) : Wp pNo e Q := ⟨_, _, rfl, k⟩
theorem wp_at {Q : Option Int → En → Prop} (h : Wd f e fun d e => ∃ i, d = .int i ∧ Q (some i) e) : Wp (pAt f) e Q := by
  obtain ⟨_, e1, h1, b, rfl, k⟩ := h
  exact ⟨_, _, by simp [pAt, h1], k⟩
theorem wd_slice {g : D → Option Int → Option Int → Option D} {lo hi : Pf} (h : Wo a e fun u e => Wp lo e fun l e => Wp hi e fun h e => Wl u e fun x => Wx (g x l h) fun d => Q d e) : Wd (eSlice g a lo hi) e Q := by
  obtain ⟨u, e1, h1, l, e2, h2, t, e3, h3, x, h4, d, h5, k⟩ := h
  exact ⟨_, _, by simp [eSlice, h1, h2, h3, h4, h5], k⟩
theorem wd_dict0 (k : Q (.dict []) e) : Wd eDict0 e Q := ⟨_, _, rfl, k⟩
theorem wd_lc {vs : List Nat} {t : Tg} {it : If} (h : Wi it e fun ds e1 => ds.length < 100000 ∧ We (wipeE vs e1) fun e2 => ∃ zs e3, lcGo vs t p f ds e2 = some (zs, e3) ∧ Q (.list zs) (restore vs e1 e3)) : Wd (eLc vs t it p f) e Q := by
  obtain ⟨ds, e1, h1, hl, e2, h2, zs, e3, h3, k⟩ := h
  exact ⟨_, _, by simp [eLc, h1, hl, h2, h3], k⟩
theorem wi_l {Q : List D → En → Prop} (h : Wd f e fun d e => ∃ ds, d = .list ds ∧ Q ds e) : Wi (iL f) e Q := by
  obtain ⟨_, e1, h1, b, rfl, k⟩ := h
  exact ⟨_, _, by simp [iL, h1], k⟩
theorem wi_t {Q : List D → En → Prop} (h : Wd f e fun d e => ∃ ds, d = .tuple ds ∧ Q ds e) : Wi (iT f) e Q := by
  obtain ⟨_, e1, h1, b, rfl, k⟩ := h
  exact ⟨_, _, by simp [iT, h1], k⟩
theorem wi_enT {Q : List D → En → Prop} (h : Wd f e fun d e => ∃ ds, d = .tuple ds ∧ Q (numbered 0 ds) e) : Wi (iEnT f) e Q := by
  obtain ⟨_, e1, h1, b, rfl, k⟩ := h
  exact ⟨_, _, by simp [iEnT, h1], k⟩
theorem wi_enL {Q : List D → En → Prop} (h : Wd f e fun d e => ∃ ds, d = .list ds ∧ Q (numbered 0 ds) e) : Wi (iEnL f) e Q := by
  obtain ⟨_, e1, h1, b, rfl, k⟩ := h
  exact ⟨_, _, by simp [iEnL, h1], k⟩
theorem wi_zipT {Q : List D → En → Prop} (h : Wd f e fun d e => ∃ ds, d = .tuple ds ∧ Wd g e fun d e => ∃ es, d = .tuple es ∧ Q (pairs ds es) e) : Wi (iZipT f g) e Q := by
  obtain ⟨_, e1, h1, b, rfl, _, e2, h2, c, rfl, k⟩ := h
  exact ⟨_, _, by simp [iZipT, h1, h2], k⟩
/-- what comes after -/
def Rs.go (A : En → Prop) (Q : Rs → Prop) : Rs → Prop
  | .nx e => A e
  | r => Q r
theorem rg_nx {A : En → Prop} {Q : Rs → Prop} (h : A e) : Rs.go A Q (.nx e) := h
theorem rg_rt {A : En → Prop} {Q : Rs → Prop} (h : Q (.rt d e)) : Rs.go A Q (.rt d e) := h
theorem rg_rn {A : En → Prop} {Q : Rs → Prop} (h : Q (.rn d e)) : Rs.go A Q (.rn d e) := h
def Rs.fin (fl : List Bool) (Q : D → List D → Prop) : Rs → Prop
  | .nx e => Wy (outsAt (slotsOf 0 fl) e) fun os => Q .none os
  | .rt d e => Wy (outsAt (slotsOf 0 fl) e) fun os => Q d os
  | _ => False
def Rs.finN (fl : List Bool) (Q : D → List D → Prop) : Rs → Prop
  | .rn d e => Wy (outsAt (slotsOf 0 fl) e) fun os => Q d os
  | _ => False
theorem rf_nx {fl : List Bool} {Q : D → List D → Prop} (h : Wy (outsAt (slotsOf 0 fl) e) fun os => Q .none os) : Rs.fin fl Q (.nx e) := h
theorem rf_rt {fl : List Bool} {Q : D → List D → Prop} (h : Wy (outsAt (slotsOf 0 fl) e) fun os => Q d os) : Rs.fin fl Q (.rt d e) := h
theorem rf_rn {fl : List Bool} {Q : D → List D → Prop} (h : Wy (outsAt (slotsOf 0 fl) e) fun os => Q d os) : Rs.finN fl Q (.rn d e) := h
theorem ws_seq {f g : Sf} {Q : Rs → Prop} (h : Ws f e (Rs.go (fun e => Ws g e Q) Q)) : Ws (sq f g) e Q := by
  obtain ⟨r, h1, k⟩ := h
  cases r with
  | nx e1 =>
    obtain ⟨r2, h2, k⟩ := k
    exact ⟨r2, by simp [sq, h1, h2], k⟩
  | _ => exact ⟨_, by simp [sq, h1], k⟩
theorem ws_nx {Q : Rs → Prop} (k : Q (.nx e)) : Ws sNx e Q := ⟨_, rfl, k⟩
theorem ws_if {f g : Sf} {Q : Rs → Prop} (h : Wb p e fun b e => Wc b (Ws f e Q) (Ws g e Q)) : Ws (sIf p f g) e Q := by
  obtain ⟨b, e1, h1, k⟩ := h
  cases b
  · obtain ⟨r, h2, k⟩ := k.2 rfl
    exact ⟨_, by simp [sIf, h1, h2], k⟩
  · obtain ⟨r, h2, k⟩ := k.1 rfl
    exact ⟨_, by simp [sIf, h1, h2], k⟩
theorem ws_set {Q : Rs → Prop} (h : Wd f e fun d e => mayPut e[i]? = true ∧ Q (.nx (e.set i (.fz d)))) : Ws (sSet i f) e Q := by
  obtain ⟨d, e1, h1, h2, k⟩ := h
  exact ⟨_, by simp [sSet, put, h1, h2], k⟩
theorem ws_setN {Q : Rs → Prop} (h : Wd f e fun d e => mayPut e[i]? = true ∧ Q (.nx (e.set i (.ow d)))) : Ws (sSetN i f) e Q := by
  obtain ⟨d, e1, h1, h2, k⟩ := h
  exact ⟨_, by simp [sSetN, put, h1, h2], k⟩
theorem ws_drop {Q : Rs → Prop} (h : Wd f e fun d e => Q (.nx e)) : Ws (sDrop f) e Q := by
  obtain ⟨d, e1, h1, k⟩ := h
  exact ⟨_, by simp [sDrop, h1], k⟩
theorem ws_ret {Q : Rs → Prop} (h : Wd f e fun d e => Q (.rt d e)) : Ws (sRet f) e Q := by
  obtain ⟨d, e1, h1, k⟩ := h
  exact ⟨_, by simp [sRet, h1], k⟩
theorem ws_retN {Q : Rs → Prop} (h : Wd f e fun d e => Q (.rn d e)) : Ws (sRetN f) e Q := by
  obtain ⟨d, e1, h1, k⟩ := h
  exact ⟨_, by simp [sRetN, h1], k⟩
theorem ws_unp {t : Tg} {Q : Rs → Prop} (h : Wd f e fun d e => We (t d e) fun e => Q (.nx e)) : Ws (sUnp t f) e Q := by
  obtain ⟨d, e1, h1, e2, h2, k⟩ := h
  exact ⟨_, by simp [sUnp, h1, h2], k⟩
theorem ws_setIx {Q : Rs → Prop} (h : Wd f e fun d e => Wy (ownL e[i]?) fun _ => Wo a e fun u e => Wl u e fun y => We (chgAt i (sSetIx.gSetL y d) e) fun e => Q (.nx e)) : Ws (sSetIx i f a) e Q := by
  obtain ⟨d, e1, h1, ls, h2, u, e2, h3, y, h4, e3, h5, k⟩ := h
  exact ⟨_, by simp [sSetIx, h1, h2, h3, h4, h5], k⟩
theorem ws_for {t : Tg} {it : If} {body : Sf} {Q : Rs → Prop} (h : Wi it e fun ds e => ∃ r, forD t body ds e = some r ∧ Q r) : Ws (sFor t it body) e Q := by
  obtain ⟨ds, e1, h1, r, h2, k⟩ := h
  exact ⟨_, by simp [sFor, h1, h2], k⟩
theorem wf_of {n : Nat} {fl : List Bool} {body : Sf} {ds : List D} {Q : D → List D → Prop} (hl : ds.length = fl.length) (h : Ws body (env0 n fl ds) (Rs.fin fl Q)) : Wf (gOf n fl body ds) Q := by
  obtain ⟨r, h1, k⟩ := h
  cases r with
  | nx e1 => obtain ⟨os, h2, k⟩ := k; exact ⟨_, _, by simp [gOf, hl, h1, h2], k⟩
  | rt d e1 => obtain ⟨os, h2, k⟩ := k; exact ⟨_, _, by simp [gOf, hl, h1, h2], k⟩
  | _ => exact k.elim
theorem wf_ofN {n : Nat} {fl : List Bool} {body : Sf} {ds : List D} {Q : D → List D → Prop} (hl : ds.length = fl.length) (h : Ws body (env0 n fl ds) (Rs.finN fl Q)) : Wf (gOfN n fl body ds) Q := by
  obtain ⟨r, h1, k⟩ := h
  cases r with
  | rn d e1 => obtain ⟨os, h2, k⟩ := k; exact ⟨_, _, by simp [gOfN, hl, h1, h2], k⟩
  | _ => exact k.elim
theorem wf_use {o : Option (D × List D)} {P Q : D → List D → Prop} (h : Wf o P) (k : ∀ d os, P d os → Q d os) : Wf o Q := by
  obtain ⟨d, os, h, p⟩ := h
  exact ⟨d, os, h, k d os p⟩
end
end DL
namespace DL
open PySem L2
local macro_rules | `(tactic| walk_at "go") => `(tactic| repeat (with_reducible first
  | refine wo_ex ?_ | refine wl_f ?_ | refine wd_c ?_ | refine wd_op2 ?_ | refine wd_op1 ?_ | refine wd_opA ?_ | refine wv_nil ?_ | refine wv_cons ?_ | refine wk_nil ?_ | refine wk_cons ?_
  | refine wc_t ?_ | refine wc_f ?_ | refine wb_d ?_ | refine wb_and ?_ | refine wb_or ?_ | refine wb_not ?_ | refine wb_tt ?_ | refine wd_and ?_ | refine wd_or ?_ | refine wd_not ?_ | refine wd_if ?_ | refine wd_chain ?_
  | refine wd_tup ?_ | refine wd_lst ?_ | refine wd_call ?_ | refine wd_meth ?_ | refine wd_slice ?_ | refine wp_no ?_ | refine wp_at ?_ | refine wd_dict0 ?_ | refine wd_lc ?_ | refine wi_l ?_ | refine wi_t ?_ | refine wi_enT ?_ | refine wi_enL ?_ | refine wi_zipT ?_
  | refine ws_seq ?_ | refine ws_nx ?_ | refine ws_if ?_ | refine ws_set ?_ | refine ws_setN ?_ | refine ws_drop ?_ | refine ws_ret ?_ | refine ws_retN ?_ | refine ws_unp ?_ | refine ws_setIx ?_ | refine ws_for ?_
  | refine rg_nx ?_ | refine rg_rt ?_ | refine rg_rn ?_ | refine rf_nx ?_ | refine rf_rt ?_ | refine rf_rn ?_
  | refine wx_eqI ?_ | refine wx_neI ?_ | refine wx_eqB ?_ | refine wx_neB ?_ | refine wx_eqS ?_ | refine wx_neS ?_ | refine wx_lt ?_ | refine wx_le ?_ | refine wx_gt ?_ | refine wx_ge ?_
  | refine wd_var (by with_unfolding_all rfl) ?_ | refine wd_varO (by with_unfolding_all rfl) ?_ | refine wo_f (by with_unfolding_all rfl) ?_ | refine wo_o (by with_unfolding_all rfl) ?_ | refine wo_p (by with_unfolding_all rfl) ?_ | refine wl_s (by with_unfolding_all rfl) ?_
  | refine wy_eq (by with_unfolding_all rfl) ?_ | refine we_eq (by with_unfolding_all rfl) ?_ | refine ⟨_, rfl, ?_⟩ | refine Exists.intro _ (And.intro rfl ?_)
  | refine and_put (by with_unfolding_all rfl) ?_ | refine and_len (by first | (with_unfolding_all decide) | (simp; done) | (simp; omega)) ?_
  | refine wx_mul (by omega) ?_ | refine wx_mod (by omega) ?_ | refine wx_div (by omega) (by first | assumption | decide) ?_ | refine wx_pow (by decide) ?_ | refine wx_addT (by simp; omega) ?_ | refine wx_addL (by simp; omega) ?_
  | refine wq_isiT (by with_unfolding_all rfl) ?_ | refine wq_isiF (by with_unfolding_all rfl) ?_ | refine wc_T (by with_unfolding_all rfl) ?_ | refine wc_F (by with_unfolding_all rfl) ?_ | refine wq_len (by with_unfolding_all rfl) ?_ | refine wq_ix (by with_unfolding_all rfl) ?_ | refine wq_ixs (by with_unfolding_all rfl) ?_ | refine wq_add (by with_unfolding_all rfl) ?_ | refine wq_sub (by with_unfolding_all rfl) ?_ | refine wq_neg (by with_unfolding_all rfl) ?_ | refine wq_rev (by with_unfolding_all rfl) ?_ | refine wq_cut (by with_unfolding_all rfl) ?_ | refine wq_int (by with_unfolding_all rfl) ?_ | refine wq_lst (by with_unfolding_all rfl) ?_ | refine wq_tup (by with_unfolding_all rfl) ?_ | refine wq_max (by with_unfolding_all rfl) ?_ | refine wq_min (by with_unfolding_all rfl) ?_ | refine wq_all (by with_unfolding_all rfl) ?_))
def dCell : Sf := (sq (sIf (bD (op2 gLt (.vr 1) (.ex (opA gLen [(.vr 0)])))) (sRet (op2 gIxs (.vr 0) (.vr 1))) sNx) (sRet (eC (.int 0))))
def gCell : List D → Option (D × List D) := gOf 2 [false, false] dCell
def dPool : Sf := (sq (sSet 2 (eCall [false, false] gCell [(.ex (eVar 0)), (.ex (eVar 1))])) (sq (sSet 3 (op2 gMod (.ex (op2 gMuls (.ex (op2 gAdd (.ex (op2 gAdd (.ex (op2 gMod (.vr 2) (.ex (eC (.int 2147483629))))) (.ex (op2 gMuls (.ex (op2 gMuls (.ex (eC (.int 7919))) (.vr 1))) (.vr 1))))) (.ex (eC (.int 1))))) (.ex (eC (.int 48271))))) (.ex (eC (.int 2147483647))))) (sq (sIf (bD (op2 gLt (.vr 2) (.ex (op2 gPow (.ex (eC (.int 10))) (.ex (eC (.int 18))))))) (sSet 2 (eC (.int 0))) sNx) (sRetN (eLst [(.ex (eVar 2)), (.ex (op2 gMod (.ex (op2 gMuls (.vr 3) (.vr 3))) (.ex (eC (.int 2147483629)))))])))))
def gPool : List D → Option (D × List D) := gOfN 4 [false, false] dPool
def dTake : Sf := (sq (sIf (bD (op2 gGt (.ex (op2 gIxs (.vr 0) (.ex (eC (.int 0))))) (.ex (eC (.int 0))))) (sq (sSet 2 (op2 gMod (.ex (op2 gIxs (.vr 0) (.ex (eC (.int 0))))) (.vr 1))) (sq (sSetIx 0 (op2 gDiv (.ex (op2 gIxs (.vr 0) (.ex (eC (.int 0))))) (.vr 1)) (.ex (eC (.int 0)))) (sRet (eVar 2)))) sNx) (sq (sSetIx 0 (op2 gMod (.ex (op2 gAdd (.ex (op2 gMuls (.ex (op2 gIxs (.vr 0) (.ex (eC (.int 1))))) (.ex (eC (.int 48271))))) (.ex (eC (.int 11))))) (.ex (eC (.int 2147483647)))) (.ex (eC (.int 1)))) (sRet (op2 gMod (.ex (op2 gDiv (.ex (op2 gMod (.ex (op2 gMuls (.ex (op2 gIxs (.vr 0) (.ex (eC (.int 1))))) (.ex (op2 gIxs (.vr 0) (.ex (eC (.int 1))))))) (.ex (eC (.int 2147483629))))) (.ex (eC (.int 64))))) (.vr 1)))))
def gTake : List D → Option (D × List D) := gOf 3 [true, false] dTake
def IsPool (P : D) : Prop := ∃ c s : Int, P = .list [.int c, .int s] ∧ 0 ≤ s ∧ s < 2147483647
theorem cell_spec (ns : List Int) (k : Nat) : Wf (gCell [.dict [(.none, .list (ns.map .int))], .int k]) fun d os => os = [] ∧ ∃ c : Int, d = .int c := by
  unfold gCell dCell
  refine wf_of rfl ?_
  walk_at "go"
  refine wc_s (fun h => ?_) (fun h => ?_)
  · walk_at "go"
    have h : k < ns.length := by simpa using h
    refine wx_ixsS (Int.natCast_nonneg k) (show (ns.map PyData.int)[(k : Int).toNat]? = some (.int ns[k]) from by simp [h]) ?_
    walk_at "go"
    exact ⟨rfl, _, rfl⟩
  · walk_at "go"
    exact ⟨rfl, _, rfl⟩
theorem pool_spec (ns : List Int) (k : Nat) (hk : k < 100) : Wf (gPool [.dict [(.none, .list (ns.map .int))], .int k]) fun d os => os = [] ∧ IsPool d := by
  unfold gPool dPool
  refine wf_ofN rfl ?_
  walk_at "go"
  refine wf_use (cell_spec ns k) ?_
  rintro _ _ ⟨rfl, c, rfl⟩
  have hkk : (0 : Int) ≤ 7919 * (k : Int) * (k : Int) ∧ 7919 * (k : Int) * (k : Int) ≤ 79190000 := by
    have h1 := Int.mul_le_mul (show (k : Int) ≤ 100 by omega) (show (k : Int) ≤ 100 by omega) (by omega) (by decide)
    have h2 := Int.mul_nonneg (show (0 : Int) ≤ k by omega) (show (0 : Int) ≤ k by omega)
    rw [Int.mul_assoc]
    omega
  generalize hkk2 : 7919 * (k : Int) * (k : Int) = kk at hkk
  walk_at "go"
  rw [hkk2]
  have hs : 0 ≤ (c % 2147483629 + kk + 1) * 48271 % 2147483647 ∧ (c % 2147483629 + kk + 1) * 48271 % 2147483647 < 2147483647 := by omega
  generalize (c % 2147483629 + kk + 1) * 48271 % 2147483647 = sd at hs
  refine wc_s (fun h => ?_) (fun h => ?_)
  · walk_at "go"
    exact ⟨rfl, _, _, rfl, by omega, by omega⟩
  · walk_at "go"
    exact ⟨rfl, _, _, rfl, by omega, by omega⟩
theorem take_spec (P : D) (hP : IsPool P) (m : Int) (h0 : 0 < m) (hm : m.natAbs.log2 < 9000) : Wf (gTake [P, .int m]) fun d os => ∃ (x : Int) (P' : D), d = .int x ∧ os = [P'] ∧ 0 ≤ x ∧ x < m ∧ IsPool P' := by
  obtain ⟨c, s, rfl, h1, h2⟩ := hP
  unfold gTake dTake
  refine wf_of rfl ?_
  walk_at "go"
  refine wc_s (fun h => ?_) (fun h => ?_)
  · walk_at "go"
    exact ⟨_, _, rfl, rfl, Int.emod_nonneg _ (by omega), Int.emod_lt_of_pos _ h0, _, _, rfl, h1, h2⟩
  · walk_at "go"
    have hs : 0 ≤ (s * 48271 + 11) % 2147483647 ∧ (s * 48271 + 11) % 2147483647 < 2147483647 := by omega
    generalize (s * 48271 + 11) % 2147483647 = sd at hs ⊢
    exact ⟨_, _, rfl, rfl, Int.emod_nonneg _ (by omega), Int.emod_lt_of_pos _ h0, _, _, rfl, hs⟩
end DL
namespace DL
open PySem L2
section
variable {vs : List Nat} {t : Tg} {p : Bf} {f : Df} {e e0 : En}
theorem lc_pure (g : D → D) : ∀ {ds : List D}, (∀ x ∈ ds, We (t x e0) fun e1 => Wb p e1 fun b e => b = true ∧ Wd f e fun y e => y = g x ∧ We (wipeE vs e) fun e => e = e0) → lcGo vs t p f ds e0 = some (ds.map g, e0)
  | [], _ => rfl
  | x :: ds, h => by
    obtain ⟨e1, h1, b, e2, h2, rfl, y, e3, h3, rfl, e4, h4, e5⟩ := h x List.mem_cons_self
    rw [e5] at h4
    have r := lc_pure (g := g) (ds := ds) fun z hz => h z (List.mem_cons_of_mem _ hz)
    simp [lcGo, h1, h2, h3, h4, r]
/-- a round that goes on -/
def Rs.on (I : En → Prop) : Rs → Prop
  | .nx e => I e
  | .ct e => I e
  | _ => False
theorem for_inv {body : Sf} (I : En → Prop) : ∀ {ds : List D} {e : En}, I e → (∀ x ∈ ds, ∀ e, I e → We (t x e) fun e1 => Ws body e1 (Rs.on I)) → ∃ e', forD t body ds e = some (.nx e') ∧ I e'
  | [], e, i, _ => ⟨e, rfl, i⟩
  | x :: ds, e, i, h => by
    obtain ⟨e1, h1, r, h2, k⟩ := h x List.mem_cons_self e i
    have hr : ∀ z ∈ ds, ∀ e, I e → We (t z e) fun e1 => Ws body e1 (Rs.on I) := fun z hz => h z (List.mem_cons_of_mem _ hz)
    cases r with
    | nx e2 => obtain ⟨e', r, i'⟩ := for_inv I k hr; exact ⟨e', by simp [forD, h1, h2, r], i'⟩
    | ct e2 => obtain ⟨e', r, i'⟩ := for_inv I k hr; exact ⟨e', by simp [forD, h1, h2, r], i'⟩
    | _ => exact k.elim
end
theorem rng_mem {n : Nat} {x : D} (h : x ∈ rng 0 n) : ∃ i : Nat, x = .int i ∧ i < n := by
  unfold rng at h
  obtain ⟨i, hi, rfl⟩ := List.mem_map.mp h
  exact ⟨i, by simp, List.mem_range.mp hi⟩
theorem wi_r1 {a : Opd} {e : En} {Q : List D → En → Prop} (h : Wv [a] e fun us e => Wk us e fun ds => ∃ n : Int, ds = [.int n] ∧ (-4611686018427387904 ≤ n ∧ n < 4611686018427387904) ∧ Q (rng 0 n.toNat) e) : Wi (iR1 a) e Q := by
  obtain ⟨us, e1, h1, _, h2, n, rfl, hn, k⟩ := h
  have hn : -(2 ^ 62) ≤ n ∧ n < 2 ^ 62 := by omega
  exact ⟨_, _, by simp [iR1, h1, h2]; exact hn, k⟩
/-- a bool comes back, nothing was changed -/
def Tells (x : Option (D × List D)) (b : Bool) : Prop := Wf x fun d os => d = .bool b ∧ os = []
theorem Tells.eq {x : Option (D × List D)} {b : Bool} (h : Tells x b) : x = some (.bool b, []) := by
  obtain ⟨_, _, h, rfl, rfl⟩ := h
  exact h
theorem Tells.use {x : Option (D × List D)} {b : Bool} {Q : D → List D → Prop} (h : Tells x b) (k : Q (.bool b) []) : Wf x Q := ⟨_, _, h.eq, k⟩
end DL
namespace DL
open PySem L2
theorem cut_to {xs : List D} {i : Int} (h : 0 ≤ i) : cutD xs none (some i) = xs.take i.toNat := by
  obtain ⟨n, rfl⟩ := Int.eq_ofNat_of_zero_le h
  unfold cutD
  rw [HT.sIx_none, HT.sIx_nat, List.drop_zero, Nat.sub_zero, Int.toNat_natCast]
  rcases Nat.le_total n xs.length with q | q
  · rw [Nat.min_eq_left q]
  · rw [Nat.min_eq_right q, List.take_of_length_le (Nat.le_refl _), List.take_of_length_le q]
theorem cut_from {xs : List D} {i : Int} (h : 0 ≤ i) : cutD xs (some i) none = xs.drop i.toNat := by
  obtain ⟨n, rfl⟩ := Int.eq_ofNat_of_zero_le h
  unfold cutD
  rw [HT.sIx_none, HT.sIx_nat, Int.toNat_natCast]
  rcases Nat.le_total n xs.length with q | q
  · rw [Nat.min_eq_left q, List.take_of_length_le (by rw [List.length_drop]; exact Nat.le_refl _)]
  · rw [Nat.min_eq_right q, List.drop_of_length_le (Nat.le_refl _), List.drop_of_length_le q, List.take_nil]
theorem wx_toT {xs : List D} {i : Int} {Q : D → Prop} (h : 0 ≤ i) (k : Q (.tuple (xs.take i.toNat))) : Wx (gCut (.tuple xs) none (some i)) Q := ⟨_, by rw [← cut_to h]; rfl, k⟩
theorem wx_fromT {xs : List D} {i : Int} {Q : D → Prop} (h : 0 ≤ i) (k : Q (.tuple (xs.drop i.toNat))) : Wx (gCut (.tuple xs) (some i) none) Q := ⟨_, by rw [← cut_from h]; rfl, k⟩
theorem wx_toL {xs : List D} {i : Int} {Q : D → Prop} (h : 0 ≤ i) (k : Q (.list (xs.take i.toNat))) : Wx (gCut (.list xs) none (some i)) Q := ⟨_, by rw [← cut_to h]; rfl, k⟩
theorem wx_fromL {xs : List D} {i : Int} {Q : D → Prop} (h : 0 ≤ i) (k : Q (.list (xs.drop i.toNat))) : Wx (gCut (.list xs) (some i) none) Q := ⟨_, by rw [← cut_from h]; rfl, k⟩
theorem take_use {P : D} {m : Int} {Q : D → List D → Prop} (hP : IsPool P) (h0 : 0 < m) (hm : m < 10 ^ 40) (k : ∀ (x : Int) (P' : D), 0 ≤ x → x < m → IsPool P' → Q (.int x) [P']) : Wf (gTake [P, .int m]) Q := by
  refine wf_use (take_spec P hP m h0 ?_) ?_
  · refine (Nat.log2_lt (by omega)).mpr ?_
    have : m.natAbs < 10 ^ 40 := by omega
    exact Nat.lt_of_lt_of_le this (by decide +kernel)
  · rintro _ _ ⟨x, P', rfl, rfl, h1, h2, hP'⟩
    exact k x P' h1 h2 hP'
theorem all_nil {P : D → Prop} : ∀ x ∈ ([] : List D), P x := nofun
theorem all_cons {P : D → Prop} {d : D} {ds : List D} (h : P d) (a : ∀ x ∈ ds, P x) : ∀ x ∈ d :: ds, P x := fun x hx => by
  rcases List.mem_cons.mp hx with rfl | hx
  · exact h
  · exact a x hx
theorem for_use {t : Tg} {body : Sf} {Q : Rs → Prop} {ds : List D} {e : En} (I : En → Prop) (hi : I e) (hb : ∀ x ∈ ds, ∀ e, I e → We (t x e) fun e1 => Ws body e1 (Rs.on I)) (k : ∀ e, I e → Q (.nx e)) : ∃ r, forD t body ds e = some r ∧ Q r := by
  obtain ⟨e', h, i⟩ := for_inv I hi hb
  exact ⟨_, h, k e' i⟩
theorem put_one {i : Nat} {s : Sv} {e : En} {x : D} {Q : En → Prop} (h : mayPut e[i]? = true) (k : Q (e.set i (.fz x))) : We (tgName i x e) Q := ⟨_, by simp [tgName, put, h], k⟩
end DL
namespace DL
open PySem L2
def Wm (f : Mf) (e : En) (Q : Sh → D → En → Prop) : Prop := ∃ s d e', f e = some (s, d, e') ∧ Q s d e'
def Wms (fs : List Mf) (e : En) (Q : List (Sh × D) → En → Prop) : Prop := ∃ ts e', evM fs e = some (ts, e') ∧ Q ts e'
def Wg (x : Option (Option D)) (Q : Option D → Prop) : Prop := ∃ d, x = some d ∧ Q d
def Wpl (pl : Plf) (e : En) (Q : Nat → List Stp → Prop) : Prop := ∃ i π, pl e = some (i, π) ∧ Q i π
def Wq (f : Qf) (e : En) (Q : D → Prop) : Prop := ∃ d, f e = some d ∧ Q d
section
variable {f g : Df} {a b c : Opd} {e : En} {i j : Nat} {d x y : D} {Q : D → En → Prop} {p q : Bf} {os : List Opd} {s : Sh}
theorem wd_get1 (h : Wo a e fun u e => Wl u e fun x => isDc x = true ∧ Wo b e fun v e => Wl u e fun x => Wl v e fun y => Wg (dGet x y) fun z => Q (z.getD .none) e) : Wd (eGet1 a b) e Q := by
  obtain ⟨u, e1, h1, x, h2, hd, v, e2, h3, x', h4, y, h5, z, h6, k⟩ := h
  exact ⟨_, _, by simp [eGet1, h1, h2, hd, h3, h4, h5, h6], k⟩
theorem wd_get2 (h : Wo a e fun u e => Wl u e fun x => isDc x = true ∧ Wo b e fun v e => Wd f e fun w e => Wl u e fun x => Wl v e fun y => Wg (dGet x y) fun z => Q (z.getD w) e) : Wd (eGet2 a b f) e Q := by
  obtain ⟨u, e1, h1, x, h2, hd, v, e2, h3, w, e3, h3', x', h4, y, h5, z, h6, k⟩ := h
  exact ⟨_, _, by simp [eGet2, h1, h2, hd, h3, h3', h4, h5, h6], k⟩
theorem wx_isN {n : Bool} {Q : D → Prop} (k : Q (.bool (xor n (isNon x)))) : Wx (gIsN n x) Q := ⟨_, rfl, k⟩
theorem ws_putD {Q : Rs → Prop} (h : Wd f e fun d e => Wx (ownD e[i]?) fun _ => Wo a e fun u e => Wl u e fun y => We (chgAt i (gPutD y d) e) fun e => Q (.nx e)) : Ws (sPutD i f a) e Q := by
  obtain ⟨d, e1, h1, o, h2, u, e2, h3, y, h4, e3, h5, k⟩ := h
  exact ⟨_, by simp [sPutD, h1, h2, h3, h4, h5], k⟩
theorem wd_methR {gm : List D → List D → Option (D × List D)} (h : Wy (ownL e[i]?) fun _ => Wv os e fun us e => Wy (fzAll us) fun ds => Wy (ownL e[i]?) fun ls => ∃ z zs, gm ds ls = some (z, zs) ∧ We (chgAt i (fun _ => some (.list zs)) e) fun e => Q z e) : Wd (eMethR i gm os) e Q := by
  obtain ⟨l0, h0, us, e1, h1, ds, h2, ls, h3, z, zs, h4, e2, h5, k⟩ := h
  exact ⟨_, _, by simp [eMethR, h0, h1, h2, h3, h4, h5], k⟩
theorem wd_disp {ps : List (Df × Df)} (hl : ps.length ≤ 15) (h : ∃ md e', evP ps e = some (md, e') ∧ Q (.dict (mergeD [] md)) e') : Wd (eDisp ps) e Q := by
  obtain ⟨md, e1, h1, k⟩ := h
  exact ⟨_, _, by simp [eDisp, hl, h1], k⟩
theorem evp_nil {R : List (Key × D) → En → Prop} (k : R [] e) : ∃ md e', evP [] e = some (md, e') ∧ R md e' := ⟨_, _, rfl, k⟩
theorem evp_cons {ps : List (Df × Df)} {R : List (Key × D) → En → Prop} (h : Wd f e fun kd e => ∃ k, keyD kd = some k ∧ Wd g e fun v e => ∃ md e', evP ps e = some (md, e') ∧ R ((k, v) :: md) e') : ∃ md e', evP ((f, g) :: ps) e = some (md, e') ∧ R md e' := by
  obtain ⟨kd, e1, h1, k, h2, v, e2, h3, md, e3, h4, r⟩ := h
  exact ⟨_, _, by simp [evP, h1, h2, h3, h4], r⟩
theorem ws_retO {Q : Rs → Prop} (h : e[i]? = some (.ow d)) (k : Q (.rn d e)) : Ws (sRetO i) e Q := ⟨_, by simp [sRetO, h], k⟩
theorem wm_f {Q : Sh → D → En → Prop} (h : Wd f e fun d e => Q .fz d e) : Wm (mF f) e Q := by
  obtain ⟨d, e1, h1, k⟩ := h
  exact ⟨_, _, _, by simp [mF, h1], k⟩
theorem wm_n {Q : Sh → D → En → Prop} (h : Wd f e fun d e => fits s d = true ∧ Q s d e) : Wm (mN s f) e Q := by
  obtain ⟨d, e1, h1, h2, k⟩ := h
  exact ⟨_, _, _, by simp [mN, h1, h2], k⟩
theorem wm_ow {Q : Sh → D → En → Prop} (h : e[i]? = some (.ow d)) (hf : fits s d = true) (k : Q s d (e.set i .un)) : Wm (mOw s i) e Q := ⟨_, _, _, by simp [mOw, h, hf], k⟩
theorem wms_nil {Q : List (Sh × D) → En → Prop} (k : Q [] e) : Wms [] e Q := ⟨_, _, rfl, k⟩
theorem wms_cons {m : Mf} {ms : List Mf} {Q : List (Sh × D) → En → Prop} (h : Wm m e fun s d e => Wms ms e fun ts e => Q ((s, d) :: ts) e) : Wms (m :: ms) e Q := by
  obtain ⟨s, d, e1, h1, ts, e2, h2, k⟩ := h
  exact ⟨_, _, by simp [evM, h1, h2], k⟩
theorem wm_tup {ms : List Mf} {Q : Sh → D → En → Prop} (h : Wms ms e fun ts e => (ts.length ≤ 100000 ∧ (ts.any fun t => decide (t.1 ≠ .fz)) = true) ∧ Q (.tp (shP ts)) (.tuple (ts.map (·.2))) e) : Wm (mTup ms) e Q := by
  obtain ⟨ts, e1, h1, hl, k⟩ := h
  exact ⟨_, _, _, by simp only [mTup, h1, Option.bind_some, if_pos hl], k⟩
theorem wm_call {fl : List Bool} {s : Sh} {gg : List D → Option (D × List D)} {Q : Sh → D → En → Prop} (h : Wd (eCall fl gg os) e fun d e => Q (shO s d) d e) : Wm (eCallM fl s gg os) e Q := by
  obtain ⟨d, e1, h1, k⟩ := h
  exact ⟨_, _, _, by simp [eCallM, h1], k⟩
theorem wd_fz {m : Mf} (h : Wm m e fun s d e => s.flat = true ∧ Q d e) : Wd (eFz m) e Q := by
  obtain ⟨s, d, e1, h1, hf, k⟩ := h
  exact ⟨_, _, by simp [eFz, h1, hf], k⟩
theorem ws_setT {m : Mf} {Q : Rs → Prop} (h : Wm m e fun s d e => mayPut e[i]? = true ∧ Q (.nx (e.set i (.tr s d)))) : Ws (sSetT i m) e Q := by
  obtain ⟨s, d, e1, h1, h2, k⟩ := h
  exact ⟨_, by simp [sSetT, put, h1, h2], k⟩
theorem ws_retT {m : Mf} {Q : Rs → Prop} (h : Wm m e fun s d e => Q (.rm s d e)) : Ws (sRetT m) e Q := by
  obtain ⟨s, d, e1, h1, k⟩ := h
  exact ⟨_, by simp [sRetT, h1], k⟩
theorem wd_reprT (h : trAt e i = some (s, d)) (hf : s.flat = true) (hr : gRepr d = some x) (k : Q x e) : Wd (eReprT i) e Q := ⟨_, _, by simp [eReprT, h, hf, hr], k⟩
theorem rg_rm {A : En → Prop} {Q : Rs → Prop} (h : Q (.rm s d e)) : Rs.go A Q (.rm s d e) := h
def Rs.finM (fl : List Bool) (s : Sh) (Q : D → List D → Prop) : Rs → Prop
  | .rm s' d e => s' = shO s d ∧ Wy (outsAt (slotsOf 0 fl) e) fun os => Q d os
  | _ => False
theorem rf_rm {fl : List Bool} {s' : Sh} {Q : D → List D → Prop} (hs : s' = shO s d) (h : Wy (outsAt (slotsOf 0 fl) e) fun os => Q d os) : Rs.finM fl s Q (.rm s' d e) := ⟨hs, h⟩
theorem wpl_var {Q : Nat → List Stp → Prop} {t : Sh × D} (h : trAt e i = some t) (k : Q i []) : Wpl (plVar i) e Q := ⟨_, _, by simp [plVar, h], k⟩
theorem wpl_sub {pl : Plf} {qf : Qf} {Q : Nat → List Stp → Prop} (h : Wpl pl e fun i π => Wq qf e fun k => ∃ t c s st s', trAt e i = some t ∧ subDP t.2 π = some c ∧ subShP t.1 π = some s ∧ stepOf c k = some st ∧ subSh s st = some s' ∧ Q i (π ++ [st])) : Wpl (plSub pl qf) e Q := by
  obtain ⟨i, π, h1, k, h2, t, c, s, st, s', h3, h4, h5, h6, h7, r⟩ := h
  exact ⟨_, _, by simp [plSub, h1, h2, h3, h4, h5, h6, h7], r⟩
theorem wq_c {Q : D → Prop} (k : Q d) : Wq (qC d) e Q := ⟨_, rfl, k⟩
theorem wq_v {Q : D → Prop} (h : e[i]? = some (.fz d)) (k : Q d) : Wq (qVar i) e Q := ⟨_, by simp [qVar, h], k⟩
theorem wd_appP {pl : Plf} {qf : Qf} (h : Wpl pl e fun i π => Wq qf e fun x => ∃ t ds e', trAt e i = some t ∧ subDP t.2 π = some (.list ds) ∧ subShP t.1 π = some (.ls .fz) ∧ ds.length < 100000 ∧ setTr i t.1 (setDP t.2 π (.list (ds ++ [x]))) e = some e' ∧ Q .none e') : Wd (eAppP pl qf) e Q := by
  obtain ⟨i, π, h1, x, h2, t, ds, e', h3, h4, h5, h6, h7, k⟩ := h
  exact ⟨_, _, by simp [eAppP, h1, h2, h3, h4, h5, h6, h7], k⟩
/-- a round of a while loop -/
def Rs.wh (I : En → Nat → Prop) (m : Nat) (Q : Rs → Prop) : Rs → Prop
  | .nx e2 => ∃ k, k < m ∧ I e2 k
  | .ct e2 => ∃ k, k < m ∧ I e2 k
  | .bk e2 => Q (.nx e2)
  | r => Q r
theorem rw_rt {I : En → Nat → Prop} {m : Nat} {Q : Rs → Prop} (h : Q (.rt d e)) : Rs.wh I m Q (.rt d e) := h
theorem rw_rn {I : En → Nat → Prop} {m : Nat} {Q : Rs → Prop} (h : Q (.rn d e)) : Rs.wh I m Q (.rn d e) := h
theorem rw_rm {I : En → Nat → Prop} {m : Nat} {Q : Rs → Prop} (h : Q (.rm s d e)) : Rs.wh I m Q (.rm s d e) := h
theorem and_lenM {ts : List (Sh × D)} {B : Prop} (h : ts.length ≤ 100000) (h2 : (ts.any fun t => decide (t.1 ≠ .fz)) = true) (k : B) : (ts.length ≤ 100000 ∧ (ts.any fun t => decide (t.1 ≠ .fz)) = true) ∧ B := ⟨⟨h, h2⟩, k⟩
end
theorem we_putO {i : Nat} {d d' x y : D} {e : En} {Q : En → Prop} (h : e[i]? = some (.ow d)) (hg : gPutD y x d = some d') (k : Q (e.set i (.ow d'))) : We (chgAt i (gPutD y x) e) Q := ⟨_, by simp [chgAt, h, hg], k⟩
theorem we_appO {i : Nat} {ds : List D} {x : D} {e : En} {Q : En → Prop} (h : e[i]? = some (.ow (.list ds))) (hl : ds.length < 100000) (k : Q (e.set i (.ow (.list (ds ++ [x]))))) : We (chgAt i (gAppend [x]) e) Q := ⟨_, by simp [chgAt, h, gAppend, hl], k⟩
theorem we_appW {i : Nat} {ds : List D} {x : D} {e : En} {Q : En → Prop} (h : e[i]? = some (.pw (.list ds))) (hl : ds.length < 100000) (k : Q (e.set i (.pw (.list (ds ++ [x]))))) : We (chgAt i (gAppend [x]) e) Q := ⟨_, by simp [chgAt, h, gAppend, hl], k⟩
theorem plain_cases {es : List (D × D)} {P : List (D × D) → Prop} (h : plainTy (.dict es) = true) (h0 : P []) (h1 : ∀ i v r, P ((.int i, v) :: r)) (h2 : ∀ x v r, P ((.str x, v) :: r)) : P es := by
  match es, h with
  | [], _ => exact h0
  | (.int i, v) :: r, _ => exact h1 i v r
  | (.str x, v) :: r, _ => exact h2 x v r
end DL
namespace DL
open PySem L2
def lwK : D → Bool
  | .int i => decide (i.natAbs < 10 ^ 60)
  | _ => false
def lwL (n : Nat) : Nat → Nat
  | 0 => 70
  | k + 1 => n * (lwL n k + 80) + 80
structure LwOk (n k : Nat) (d : D) : Prop where
  scr : noScr d = true
  sho : d.showable = true
  nol : noLst d = true
  dep : d.depth ≤ k
  len : d.shown.length ≤ lwL n k
structure LwAll (n k : Nat) (ds : List D) : Prop where
  scr : noScrs ds = true
  sho : PyData.showableAll ds = true
  nol : noLsts ds = true
  dep : PyData.depthAll ds ≤ k
  len : ((PyData.shownAll ds).map (·.length)).sum + 2 * ds.length ≤ ds.length * (lwL n k + 80)
theorem LwAll.of {n k : Nat} : ∀ {ds : List D}, (∀ d ∈ ds, LwOk n k d) → LwAll n k ds
  | [], _ => ⟨rfl, rfl, rfl, Nat.zero_le _, by simp [PyData.shownAll]⟩
  | d :: ds, h => by
    have a := h d List.mem_cons_self
    have b := LwAll.of (n := n) (k := k) (ds := ds) fun x hx => h x (List.mem_cons_of_mem _ hx)
    refine ⟨by simp [noScrs, a.scr, b.scr], by simp [PyData.showableAll, a.sho, b.sho], by simp [noLsts, a.nol, b.nol], Nat.max_le.mpr ⟨a.dep, b.dep⟩, ?_⟩
    have h1 := a.len
    have h2 := b.len
    simp only [PyData.shownAll, List.map_cons, List.sum_cons, List.length_cons, Nat.add_mul] at h2 ⊢
    omega
structure LwKv (n k : Nat) (es : List (D × D)) : Prop where
  scr : noScrK es = true
  sho : PyData.showableKv es = true
  nol : noLstK es = true
  dep : PyData.depthKv es ≤ k
  len : ((PyData.shownKv es).map (·.length)).sum + 2 * es.length ≤ es.length * (lwL n k + 80)
theorem LwKv.of {n k : Nat} : ∀ {es : List (D × D)}, (∀ e ∈ es, lwK e.1 = true ∧ LwOk n k e.2) → LwKv n k es
  | [], _ => ⟨rfl, rfl, rfl, Nat.zero_le _, by simp [PyData.shownKv]⟩
  | (x, d) :: ds, h => by
    obtain ⟨hk, a0⟩ := h (x, d) List.mem_cons_self
    have a : LwOk n k d := a0
    clear a0
    have b := LwKv.of (n := n) (k := k) (es := ds) fun x hx => h x (List.mem_cons_of_mem _ hx)
    cases x <;> try (cases hk; done)
    rename_i i
    have hi : i.natAbs < 10 ^ 60 := by simpa [lwK] using hk
    refine ⟨by simp [noScrK, a.scr, b.scr], ?_, by simp [noLstK, a.nol, b.nol], ?_, ?_⟩
    · simp [PyData.showableKv, a.sho, b.sho, PyData.showable, log62 hi]
    · have := a.dep
      have := b.dep
      simp only [PyData.depthKv, PyData.depth]
      omega
    · have h1 := a.len
      have h2 := b.len
      have h3 := big62 hi
      simp only [PyData.shownKv, List.map_cons, List.sum_cons, List.length_cons, Nat.add_mul, strLen_append] at h2 ⊢
      have h4 : (": " : Str).length = 2 := by decide
      omega
theorem LwOk.repr {n k : Nat} {d : D} (h : LwOk n k d) (hk : k ≤ 60) (hl : lwL n k ≤ 16000000) : gRepr d = some (.str d.shown) := by
  have e : reprOk d = true := by
    have := h.dep
    have := h.len
    simp [reprOk, h.scr, h.sho, h.nol]
    omega
  simp [gRepr, e]
end DL
namespace TT
open PySem L2 DL
/-- tables, by what they lead to -/
structure Tab (d : D) (nx : Int → Int → Option (List Int)) : Prop where
  ex : ∃ es, d = .dict es ∧ plainTy (.dict es) = true ∧ ∀ h : Int, (findK es (.inl h) = none ∧ ∀ t, nx h t = none) ∨ ∃ rows, findK es (.inl h) = some (.dict rows) ∧ plainTy (.dict rows) = true ∧ ∀ t : Int, (findK rows (.inl t) = none ∧ nx h t = none) ∨ ∃ (s : Int) (fs : List Int), findK rows (.inl t) = some (.tuple [.int s, .tuple (fs.map .int)]) ∧ nx h t = some fs
  bd : ∀ h t fs, nx h t = some fs → fs.length ≤ 8 ∧ ∀ f ∈ fs, 0 ≤ f ∧ f < 8
def ys (way : List Int) (i : Int) : Nat := if i ∈ way then 0 else 1
def free (way : List Int) : Nat := ys way 0 + ys way 1 + ys way 2 + ys way 3 + ys way 4 + ys way 5 + ys way 6 + ys way 7
theorem idx_int (f : Int) : ∀ way : List Int, idxOf (way.map .int) (.int f) = way.findIdx? fun z => decide (z = f)
  | [] => rfl
  | a :: r => by
    have ih := idx_int f r
    unfold idxOf at ih ⊢
    simp only [List.map_cons, List.findIdx?_cons, ih]
    by_cases h : a = f
    · subst h; simp [PyData.eqv]
    · simp [PyData.eqv, h]
abbrev MP (s : Sv) : Prop := mayPut (some s) = true
abbrev scrD (ns : List Int) : D := .dict [(.none, .list (ns.map .int))]
abbrev Rwt := Int × (Int × List Int)
def rowD (r : Int × List Int) : D := .tuple [.int r.1, .tuple (r.2.map .int)]
def rowE (r : Rwt) : D × D := (.int r.1, rowD r.2)
def rowsD (rows : List Rwt) : D := .dict (rows.map rowE)
def tabE (r : Int × List Rwt) : D × D := (.int r.1, rowsD r.2)
def tabD (T : List (Int × List Rwt)) : D := .dict (T.map tabE)
def RowOk (r : Rwt) : Prop := (0 ≤ r.1 ∧ r.1 < 8) ∧ (0 ≤ r.2.1 ∧ r.2.1 ≤ 100) ∧ r.2.2.length ≤ 8 ∧ ∀ f ∈ r.2.2, 0 ≤ f ∧ f < 8
structure RowsOk (rows : List Rwt) : Prop where
  nd : (rows.map (·.1)).Nodup
  len : rows.length ≤ 9
  ok : ∀ r ∈ rows, RowOk r
structure TabOk (T : List (Int × List Rwt)) : Prop where
  nd : (T.map (·.1)).Nodup
  len : T.length ≤ 8
  ok : ∀ r ∈ T, (0 ≤ r.1 ∧ r.1 < 8) ∧ RowsOk r.2
def look {α : Type} (l : List (Int × α)) (k : Int) : Option α := (l.find? fun r => decide (r.1 = k)).map (·.2)
def nxOf (T : List (Int × List Rwt)) (h t : Int) : Option (List Int) := (look T h).bind fun rows => (look rows t).map (·.2)
theorem look_mem {α : Type} {l : List (Int × α)} {k : Int} {x : α} (h : look l k = some x) : (k, x) ∈ l := by
  unfold look at h
  obtain ⟨r, h1, h2⟩ := Option.map_eq_some_iff.mp h
  have h3 := List.mem_of_find?_eq_some h1
  have h4 : r.1 = k := by simpa using List.find?_some h1
  subst h2; subst h4
  exact h3
/-- a loop, by what was gone through -/
theorem for_ix {t : Tg} {body : Sf} {Q : Rs → Prop} (I : Nat → En → Prop) : ∀ {ds : List D} {k : Nat} {e : En}, I k e → (∀ j x e, ds[j]? = some x → I (k + j) e → We (t x e) fun e1 => Ws body e1 (Rs.on (I (k + j + 1)))) → (∀ e, I (k + ds.length) e → Q (.nx e)) → ∃ r, forD t body ds e = some r ∧ Q r
  | [], k, e, i, _, q => ⟨_, rfl, q e i⟩
  | x :: ds, k, e, i, h, q => by
    obtain ⟨e1, h1, r, h2, kk⟩ := h 0 x e rfl i
    have hr : ∀ j y e, ds[j]? = some y → I (k + 1 + j) e → We (t y e) fun e1 => Ws body e1 (Rs.on (I (k + 1 + j + 1))) := fun j y e hj hi => by
      have := h (j + 1) y e (by simpa using hj) (by rw [show k + (j + 1) = k + 1 + j by omega]; exact hi)
      rw [show k + (j + 1) + 1 = k + 1 + j + 1 by omega] at this
      exact this
    have hq : ∀ e, I (k + 1 + ds.length) e → Q (.nx e) := fun e hi => q e (by rw [show k + (x :: ds).length = k + 1 + ds.length by simp; omega]; exact hi)
    cases r with
    | nx e2 =>
      obtain ⟨r', h3, q'⟩ := for_ix I (k := k + 1) (e := e2) kk hr hq
      exact ⟨r', by simp [forD, h1, h2, h3], q'⟩
    | ct e2 =>
      obtain ⟨r', h3, q'⟩ := for_ix I (k := k + 1) (e := e2) kk hr hq
      exact ⟨r', by simp [forD, h1, h2, h3], q'⟩
    | _ => exact kk.elim
theorem look_iff {α : Type} {k : Int} {x : α} : ∀ {l : List (Int × α)}, (l.map (·.1)).Nodup → (look l k = some x ↔ (k, x) ∈ l)
  | [], _ => by simp [look]
  | r :: l, h => by
    obtain ⟨h1, h2⟩ := List.nodup_cons.mp h
    have ih := look_iff (k := k) (x := x) h2
    unfold look at ih ⊢
    by_cases e : r.1 = k
    · simp only [List.find?_cons, e, decide_true, Option.map_some, Option.some.injEq, List.mem_cons]
      constructor
      · intro z; left; subst e; subst z; rfl
      · rintro (z | z)
        · rw [← z]
        · exact absurd (List.mem_map.mpr ⟨_, z, e.symm⟩) h1
    · simp only [List.find?_cons, e, decide_false, List.mem_cons]
      rw [ih]
      constructor
      · exact .inr
      · rintro (z | z)
        · exact absurd (by rw [← z]) e
        · exact z
theorem nodup_perm {α : Type} {l l' : List (Int × α)} (p : l'.Perm l) (h : (l.map (·.1)).Nodup) : (l'.map (·.1)).Nodup := (p.map (·.1)).nodup_iff.mpr h
/-- the tables turned about: the same rows -/
structure Turn (T T' : List (Int × List Rwt)) : Prop where
  ks : (T'.map (·.1)).Perm (T.map (·.1))
  rw : ∀ r ∈ T', ∃ rows, (r.1, rows) ∈ T ∧ r.2.Perm rows
theorem Turn.ok {T T' : List (Int × List Rwt)} (t : Turn T T') (h : TabOk T) : TabOk T' := by
  refine ⟨t.ks.nodup_iff.mpr h.nd, ?_, fun r hr => ?_⟩
  · have := t.ks.length_eq
    simp at this
    have := h.len
    omega
  · obtain ⟨rows, h1, h2⟩ := t.rw r hr
    obtain ⟨a, b⟩ := h.ok _ h1
    exact ⟨a, nodup_perm h2 b.nd, by rw [h2.length_eq]; exact b.len, fun x hx => b.ok x (h2.mem_iff.mp hx)⟩
theorem nx_iff {T : List (Int × List Rwt)} (h : TabOk T) {x t : Int} {fs : List Int} : nxOf T x t = some fs ↔ ∃ rows s, (x, rows) ∈ T ∧ (t, (s, fs)) ∈ rows := by
  unfold nxOf
  rw [Option.bind_eq_some_iff]
  constructor
  · rintro ⟨rows, h1, h2⟩
    obtain ⟨⟨s, fs'⟩, h3, rfl⟩ := Option.map_eq_some_iff.mp h2
    have m1 := look_mem h1
    exact ⟨rows, s, m1, look_mem h3⟩
  · rintro ⟨rows, s, h1, h2⟩
    refine ⟨rows, (look_iff h.nd).mpr h1, ?_⟩
    rw [(look_iff (h.ok _ h1).2.nd).mpr h2]
    rfl
theorem Turn.nx {T T' : List (Int × List Rwt)} (t : Turn T T') (h : TabOk T) : nxOf T' = nxOf T := by
  funext x y
  have h' := t.ok h
  apply Option.ext
  intro fs
  rw [nx_iff h', nx_iff h]
  constructor
  · rintro ⟨rows, s, h1, h2⟩
    obtain ⟨rows', h3, h4⟩ := t.rw _ h1
    exact ⟨rows', s, h3, h4.mem_iff.mp h2⟩
  · rintro ⟨rows, s, h1, h2⟩
    have hx : x ∈ T'.map (·.1) := t.ks.mem_iff.mpr (List.mem_map.mpr ⟨_, h1, rfl⟩)
    obtain ⟨⟨x', rows'⟩, h3, rfl⟩ := List.mem_map.mp hx
    obtain ⟨rows2, h4, h5⟩ := t.rw _ h3
    have e : some rows = some rows2 := by
      rw [← (look_iff h.nd).mpr h1, ← (look_iff h.nd).mpr h4]
    cases e
    exact ⟨rows', s, h3, h5.mem_iff.mpr h2⟩
def val (T : List (Int × List Rwt)) (x : D) : D := ((gIxs (tabD T) x).bind fun a => (gSItems a).bind fun b => (gRev b).bind fun c => gDictOf [c]).getD .none
mutual
theorem eqv_refl : ∀ d : D, noDct d = true → PyData.eqv d d = true
  | .none, _ => by simp [PyData.eqv]
  | .bool _, _ => by simp [PyData.eqv]
  | .int _, _ => by simp [PyData.eqv]
  | .str _, _ => by simp [PyData.eqv]
  | .list xs, h => by simp only [PyData.eqv]; exact eqvs_refl xs (by simpa [noDct] using h)
  | .tuple xs, h => by simp only [PyData.eqv]; exact eqvs_refl xs (by simpa [noDct] using h)
  | .dict _, h => by simp [noDct] at h
theorem eqvs_refl : ∀ ds : List D, noDcts ds = true → PyData.eqvAll ds ds = true
  | [], _ => by simp [PyData.eqvAll]
  | d :: ds, h => by
    simp only [noDcts, Bool.and_eq_true] at h
    simp [PyData.eqvAll, eqv_refl d h.1, eqvs_refl ds h.2]
end
end TT
namespace DL
open PySem L2 TT
section
variable {f g : Df} {e : En} {Q : D → En → Prop} {p : Bf} {t : Tg} {vs : List Nat}
theorem wd_dc {it : If} (h : Wi it e fun ds e1 => ds.length < 100000 ∧ We (wipeE vs e1) fun e2 => ∃ zs e3, dcGo vs t p f g ds [] e2 = some (zs, e3) ∧ Q (.dict zs) (restore vs e1 e3)) : Wd (eDc vs t it p f g) e Q := by
  obtain ⟨ds, e1, h1, hl, e2, h2, zs, e3, h3, k⟩ := h
  exact ⟨_, _, by simp [eDc, h1, hl, h2, h3], k⟩
theorem wi_k {Q : List D → En → Prop} (h : Wd f e fun d e => ∃ es, d = .dict es ∧ plainTy (.dict es) = true ∧ Q (es.map (·.1)) e) : Wi (iK f) e Q := by
  obtain ⟨_, e1, h1, es, rfl, hp, k⟩ := h
  refine ⟨_, _, ?_, k⟩
  unfold iK
  simp only [h1, Option.bind_some]
  exact plain_cases (P := fun es => (match (PyData.dict es : D) with | .dict ((.bool true, .none) :: _) => none | .dict es => if plainTy (.dict es) = true then some (es.map (·.1), e1) else none | _ => none) = some (es.map (·.1), e1)) hp rfl (fun _ _ _ => rfl) (fun _ _ _ => rfl)
end
def tupE (K : List (List Int)) : List (D × D) := K.map fun k => (tupD k, PyData.bool true)
theorem keyT_tupD (k : List Int) : keyT (tupD k) = some (k.map Sum.inl) := by
  have : (tupD k) = .tuple ((k.map Sum.inl : List Key).map kD) := by simp [tupD, List.map_map, Function.comp_def, kD]
  rw [this]
  exact keysD_kD _
theorem put_tup {K : List (List Int)} {b : List Int} (hl : K.length < 100000) : gPutD (tupD b) (.bool true) (.dict ((.bool true, .none) :: tupE K)) = some (.dict ((.bool true, .none) :: tupE (if b ∈ K then K else K ++ [b]))) := by
  have inj : ∀ k : List Int, (keyT (tupD k) = some (b.map Sum.inl)) ↔ k = b := fun k => by
    rw [keyT_tupD]
    constructor
    · intro z
      have z := Option.some.inj z
      have := congrArg (List.map fun x : Key => match x with | .inl i => i | .inr _ => 0) z
      simpa [List.map_map, Function.comp_def] using this
    · rintro rfl; rfl
  have e0 : gPutD (tupD b) (.bool true) (.dict ((.bool true, .none) :: tupE K)) = if (tupE K).length < 100000 then (keyT (tupD b)).bind fun ks => some (.dict ((.bool true, .none) :: putDT (tupE K) ks (.bool true))) else none := rfl
  rw [e0, if_pos (by simpa [tupE] using hl), keyT_tupD]
  simp only [Option.bind_some]
  congr 3
  unfold putDT
  by_cases hb : b ∈ K
  · have : ((tupE K).any fun e => decide (keyT e.1 = some (b.map Sum.inl))) = true := by
      rw [List.any_eq_true]
      exact ⟨(tupD b, .bool true), List.mem_map.mpr ⟨b, hb, rfl⟩, by simp [keyT_tupD]⟩
    rw [if_pos this, if_pos hb]
    unfold tupE
    rw [List.map_map]
    refine List.map_congr_left fun k _ => ?_
    simp only [Function.comp]
    split <;> rfl
  · have : ¬ ((tupE K).any fun e => decide (keyT e.1 = some (b.map Sum.inl))) = true := by
      rw [List.any_eq_true]
      rintro ⟨e, he, h2⟩
      obtain ⟨k, hk, rfl⟩ := List.mem_map.mp he
      have := (inj k).mp (by simpa using h2)
      exact hb (this ▸ hk)
    rw [if_neg this, if_neg hb]
    unfold tupE
    rw [List.map_append]
    simp [tupD, List.map_map, Function.comp_def, kD]
end DL
namespace DL
open PySem L2
section
variable {e : En} {Q : Rs → Prop} {f : Sf} {x fld : Str}
theorem ws_raise {f : Df} (h : Wd f e fun d e => Q (.xx ⟨x, some (fld, d)⟩ e)) : Ws (sRaise x fld f) e Q := by
  obtain ⟨d, e1, h1, k⟩ := h
  exact ⟨_, by simp [sRaise, h1], k⟩
/-- what is told or raised, run forward -/
def Wz (f : Dx) (e : En) (Q : D ⊕ Ex → En → Prop) : Prop := ∃ r e', f e = some (r, e') ∧ Q r e'
theorem ws_dropX {f : Dx} (h : Wz f e fun r e => match r with | .inl _ => Q (.nx e) | .inr x => Q (.xx x e)) : Ws (sDropX f) e Q := by
  obtain ⟨r, e1, h1, k⟩ := h
  cases r with
  | inl d => exact ⟨_, by simp [sDropX, h1], k⟩
  | inr x => exact ⟨_, by simp [sDropX, h1], k⟩
theorem ws_retX {f : Dx} (h : Wz f e fun r e => match r with | .inl d => Q (.rt d e) | .inr x => Q (.xx x e)) : Ws (sRetX f) e Q := by
  obtain ⟨r, e1, h1, k⟩ := h
  cases r with
  | inl d => exact ⟨_, by simp [sRetX, h1], k⟩
  | inr x => exact ⟨_, by simp [sRetX, h1], k⟩
def Wfx (x : Option ((D ⊕ Ex) × List D)) (Q : D ⊕ Ex → List D → Prop) : Prop := ∃ r os, x = some (r, os) ∧ Q r os
theorem wz_call {fl : List Bool} {g : List D → Option ((D ⊕ Ex) × List D)} {os : List Opd} {Q : D ⊕ Ex → En → Prop} (h : Wv os e fun us e => Wy (callIn fl us e) fun ds => Wfx (g ds) fun r outs => We (putBack (callSl us) outs e) fun e => Q r e) : Wz (eCallX fl g os) e Q := by
  obtain ⟨us, e1, h1, ds, h2, d, outs, h3, e2, h4, k⟩ := h
  exact ⟨_, _, by simp [eCallX, h1, h2, h3, h4], k⟩
theorem wf_told {g : List D → Option ((D ⊕ Ex) × List D)} {ds : List D} {Q : D → List D → Prop} (h : Wfx (g ds) fun r os => ∃ d, r = .inl d ∧ Q d os) : Wf (told g ds) Q := by
  obtain ⟨r, os, h1, d, rfl, k⟩ := h
  exact ⟨d, os, by simp [told, h1], k⟩
/-- how a body of a def that may raise ends -/
def Rs.finX (fl : List Bool) (Q : D ⊕ Ex → List D → Prop) : Rs → Prop
  | .nx e => ∃ os, outsAt (slotsOf 0 fl) e = some os ∧ Q (.inl .none) os
  | .rt d e => ∃ os, outsAt (slotsOf 0 fl) e = some os ∧ Q (.inl d) os
  | .xx x e => ∃ os, outsAt (slotsOf 0 fl) e = some os ∧ Q (.inr x) os
  | _ => False
theorem wfx_of {n : Nat} {fl : List Bool} {body : Sf} {ds : List D} {Q : D ⊕ Ex → List D → Prop} (hl : ds.length = fl.length) (h : Ws body (env0 n fl ds) (Rs.finX fl Q)) : Wfx (gOfX n fl body ds) Q := by
  obtain ⟨r, h1, k⟩ := h
  cases r with
  | nx e1 => obtain ⟨os, h2, k⟩ := k; exact ⟨_, _, by simp [gOfX, hl, h1, h2], k⟩
  | rt d e1 => obtain ⟨os, h2, k⟩ := k; exact ⟨_, _, by simp [gOfX, hl, h1, h2], k⟩
  | xx x e1 => obtain ⟨os, h2, k⟩ := k; exact ⟨_, _, by simp [gOfX, hl, h1, h2], k⟩
  | bk e1 => exact k.elim
  | ct e1 => exact k.elim
  | rn d e1 => exact k.elim
  | rm s d e1 => exact k.elim
end
end DL
namespace DL
open PySem L2
section
variable {e : En} {Q : Rs → Prop} {f b : Sf} {x : Ex}
/-- how a try's body ends -/
def Rs.tr (cs : List Cd) (Q : Rs → Prop) : Rs → Prop
  | .xx x e => ∃ r, pick cs x e = some r ∧ Q r
  | r => Q r
theorem ws_try {cs : List Cd} (h : Ws b e (Rs.tr cs Q)) : Ws (sTry b cs) e Q := by
  obtain ⟨r, h1, k⟩ := h
  cases r with
  | xx x e1 => obtain ⟨r, h2, k⟩ := k; exact ⟨r, by simp [sTry, h1, h2], k⟩
  | _ => exact ⟨_, by simp [sTry, h1], k⟩
theorem tr_nx {cs : List Cd} (h : Q (.nx e)) : Rs.tr cs Q (.nx e) := h
theorem tr_rt {cs : List Cd} {d : D} (h : Q (.rt d e)) : Rs.tr cs Q (.rt d e) := h
theorem tr_xx {cs : List Cd} (h : ∃ r, pick cs x e = some r ∧ Q r) : Rs.tr cs Q (.xx x e) := h
theorem pk_yes {cs : List Cd} {m : Mt} {i : Option Nat} {e1 : En} (h : m x.c = some true) (h1 : cIn i x e = some e1) (k : Ws f e1 fun r => ∃ r', cOut i r = some r' ∧ Q r') : ∃ r, pick ((m, i, f) :: cs) x e = some r ∧ Q r := by
  obtain ⟨r, h2, r', h3, k⟩ := k
  exact ⟨r', by simp [pick, h, h1, h2, h3], k⟩
theorem pk_no {cs : List Cd} {m : Mt} {i : Option Nat} (h : m x.c = some false) (k : ∃ r, pick cs x e = some r ∧ Q r) : ∃ r, pick ((m, i, f) :: cs) x e = some r ∧ Q r := by
  obtain ⟨r, h2, k⟩ := k
  exact ⟨r, by simp [pick, h, h2], k⟩
theorem co_nx {i : Nat} (h : mayPut e[i]? = true) (k : Q (.nx (e.set i .un))) : ∃ r', cOut (some i) (.nx e) = some r' ∧ Q r' := ⟨_, by simp [cOut, unS, put, h], k⟩
theorem co_rt {i : Option Nat} {d : D} (k : Q (.rt d e)) : ∃ r', cOut i (.rt d e) = some r' ∧ Q r' := ⟨_, by cases i <;> rfl, k⟩
theorem co_rn {i : Option Nat} {d : D} (k : Q (.rn d e)) : ∃ r', cOut i (.rn d e) = some r' ∧ Q r' := ⟨_, by cases i <;> rfl, k⟩
theorem rg_xx {A : En → Prop} (h : Q (.xx x e)) : Rs.go A Q (.xx x e) := h
theorem ws_raise0 {c : Str} (h : Q (.xx ⟨c, none⟩ e)) : Ws (sRaise0 c) e Q := ⟨_, rfl, h⟩
theorem rx_nx {fl : List Bool} {Q : D ⊕ Ex → List D → Prop} {os : List D} (h : outsAt (slotsOf 0 fl) e = some os) (k : Q (.inl .none) os) : Rs.finX fl Q (.nx e) := ⟨os, h, k⟩
theorem rx_rt {fl : List Bool} {Q : D ⊕ Ex → List D → Prop} {os : List D} {d : D} (h : outsAt (slotsOf 0 fl) e = some os) (k : Q (.inl d) os) : Rs.finX fl Q (.rt d e) := ⟨os, h, k⟩
theorem rx_xx {fl : List Bool} {Q : D ⊕ Ex → List D → Prop} {os : List D} (h : outsAt (slotsOf 0 fl) e = some os) (k : Q (.inr x) os) : Rs.finX fl Q (.xx x e) := ⟨os, h, k⟩
theorem wq_isX {mn : Option Bool} {m : Mt} {d z : D} {Q : D → Prop} (h : gIsX mn m d = some z) (k : Q z) : Wx (gIsX mn m d) Q := ⟨_, h, k⟩
theorem wq_xf {g : Str} {ok : Str → Bool} {d z : D} {Q : D → Prop} (h : gXf g ok d = some z) (k : Q z) : Wx (gXf g ok d) Q := ⟨_, h, k⟩
theorem wfx_use {o : Option ((D ⊕ Ex) × List D)} {P Q : D ⊕ Ex → List D → Prop} (h : Wfx o P) (k : ∀ d os, P d os → Q d os) : Wfx o Q := by
  obtain ⟨d, os, h1, h2⟩ := h
  exact ⟨d, os, h1, k _ _ h2⟩
def Rs.onX (I : En → Prop) (Q : Rs → Prop) : Rs → Prop
  | .nx e => I e
  | .ct e => I e
  | .bk e => Q (.nx e)
  | r => Q r
theorem ox_rt {I : En → Prop} {d : D} (h : Q (.rt d e)) : Rs.onX I Q (.rt d e) := h
theorem ox_rn {I : En → Prop} {d : D} (h : Q (.rn d e)) : Rs.onX I Q (.rn d e) := h
theorem ox_xx {I : En → Prop} (h : Q (.xx x e)) : Rs.onX I Q (.xx x e) := h
/-- the loop's rounds, counted: before the round of the k-th item I k holds -/
theorem for_step {t : Tg} {body : Sf} (I : Nat → En → Prop) : ∀ {ds : List D} {k : Nat} {e : En}, I k e → (∀ (i : Nat) (x : D) (e : En), ds[i]? = some x → I (k + i) e → We (t x e) fun e1 => Ws body e1 (Rs.onX (I (k + i + 1)) Q)) → (∀ e, I (k + ds.length) e → Q (.nx e)) → ∃ r, forD t body ds e = some r ∧ Q r
  | [], k, e, h, _, hk => ⟨_, rfl, hk e h⟩
  | x :: ds, k, e, h, hb, hk => by
    obtain ⟨e1, h1, r, h2, k2⟩ := hb 0 x e rfl h
    have ih : ∀ {e2 : En}, I (k + 1) e2 → ∃ r, forD t body ds e2 = some r ∧ Q r := fun {e2} h3 => for_step I h3 (fun i y e hy hI => by
      have := hb (i + 1) y e hy (by rw [show k + (i + 1) = k + 1 + i by omega]; exact hI)
      rw [show k + (i + 1) + 1 = k + 1 + i + 1 by omega] at this
      exact this) (fun e hI => hk e (by rw [List.length_cons, show k + (ds.length + 1) = k + 1 + ds.length by omega]; exact hI))
    cases r with
    | nx e2 =>
      obtain ⟨r, h3, k3⟩ := ih k2
      exact ⟨r, by simp [forD, h1, h2, h3], k3⟩
    | ct e2 =>
      obtain ⟨r, h3, k3⟩ := ih k2
      exact ⟨r, by simp [forD, h1, h2, h3], k3⟩
    | bk e2 => exact ⟨_, by simp [forD, h1, h2], k2⟩
    | rt d e2 => exact ⟨_, by simp [forD, h1, h2], k2⟩
    | rn d e2 => exact ⟨_, by simp [forD, h1, h2], k2⟩
    | rm s d e2 => exact ⟨_, by simp [forD, h1, h2], k2⟩
    | xx x e2 => exact ⟨_, by simp [forD, h1, h2], k2⟩
end
end DL
namespace DL
open PySem L2
structure Nc (k L : Nat) (d : D) : Prop where
  scr : noScr d = true
  sho : d.showable = true
  nod : d.hasDict = false
  dep : d.depth ≤ k
  len : d.shown.length ≤ L
  lay : d.canLay0 = true
  nd : noDct d = true
  ty : plainTy d = true
theorem Nc.mono {k L k' L' : Nat} {d : D} (h : Nc k L d) (hk : k ≤ k') (hl : L ≤ L') : Nc k' L' d := ⟨h.scr, h.sho, h.nod, Nat.le_trans h.dep hk, Nat.le_trans h.len hl, h.lay, h.nd, h.ty⟩
theorem nc_none : Nc 0 10 .none := ⟨rfl, rfl, rfl, Nat.le_refl _, by decide, rfl, rfl, rfl⟩
theorem nc_bool (b : Bool) : Nc 0 10 (.bool b) := ⟨rfl, rfl, rfl, Nat.le_refl _, by cases b <;> decide, rfl, rfl, rfl⟩
theorem nc_int {i : Int} (h : i.natAbs < 10 ^ 60) : Nc 0 61 (.int i) := ⟨rfl, by simpa [PyData.showable] using log62 h, rfl, Nat.le_refl _, big62 h, rfl, rfl, rfl⟩
theorem nc_str {x : Str} {L : Nat} (h : PyData.strOk x = true) (hl : (PyData.shown (.str x)).length ≤ L) : Nc 0 L (.str x) := ⟨rfl, rfl, rfl, Nat.le_refl _, hl, h, rfl, rfl⟩
structure NcA (k L : Nat) (ds : List D) : Prop where
  scr : noScrs ds = true
  sho : PyData.showableAll ds = true
  nod : PyData.hasDictAll ds = false
  dep : PyData.depthAll ds ≤ k
  len : ((PyData.shownAll ds).map (·.length)).sum + 2 * ds.length ≤ ds.length * (L + 2)
  lay : PyData.canLayAll0 ds = true
  nd : noDcts ds = true
theorem NcA.of {k L : Nat} : ∀ {ds : List D}, (∀ d ∈ ds, Nc k L d) → NcA k L ds
  | [], _ => ⟨rfl, rfl, rfl, Nat.zero_le _, by simp [PyData.shownAll], rfl, rfl⟩
  | d :: ds, h => by
    have a := h d List.mem_cons_self
    have b := NcA.of (k := k) (L := L) (ds := ds) fun x hx => h x (List.mem_cons_of_mem _ hx)
    refine ⟨by simp [noScrs, a.scr, b.scr], by simp [PyData.showableAll, a.sho, b.sho], by simp [PyData.hasDictAll, a.nod, b.nod], Nat.max_le.mpr ⟨a.dep, b.dep⟩, ?_, by simp [PyData.canLayAll0, a.lay, b.lay], by simp [noDcts, a.nd, b.nd]⟩
    have h1 := a.len
    have h2 := b.len
    simp only [PyData.shownAll, List.map_cons, List.sum_cons, List.length_cons, Nat.add_mul] at h2 ⊢
    omega
theorem nc_list {k L M : Nat} {xs : List D} (h : ∀ x ∈ xs, Nc k L x) (hm : xs.length * (L + 2) + 10 ≤ M) : Nc (k + 1) M (.list xs) := by
  have a := NcA.of h
  refine ⟨by simp [noScr, a.scr], by simp [PyData.showable, a.sho], by simp [PyData.hasDict, a.nod], Nat.succ_le_succ a.dep, ?_, by simp [PyData.canLay0, a.lay], by simp [noDct, a.nd], rfl⟩
  have h1 := listText_len_le (PyData.shownAll xs)
  have h2 := PyData.shownAll_length xs
  have h3 := a.len
  simp only [PyData.shown]
  omega
theorem nc_tuple {k L M : Nat} {xs : List D} (h : ∀ x ∈ xs, Nc k L x) (hm : xs.length * (L + 2) + 10 ≤ M) : Nc (k + 1) M (.tuple xs) := by
  have a := NcA.of h
  refine ⟨by simp [noScr, a.scr], by simp [PyData.showable, a.sho], by simp [PyData.hasDict, a.nod], Nat.succ_le_succ a.dep, ?_, by simp [PyData.canLay0, a.lay], by simp [noDct, a.nd], rfl⟩
  have h1 := tupleText_len_le (PyData.shownAll xs)
  have h2 := PyData.shownAll_length xs
  have h3 := a.len
  simp only [PyData.shown]
  omega
theorem Nc.repr {k L : Nat} {d : D} (h : Nc k L d) (hk : k ≤ 60 := by decide) (hl : L ≤ 16000000 := by decide) : gRepr d = some (.str d.shown) := by
  have e : reprOk d = true := by
    have := h.dep
    have := h.len
    simp [reprOk, h.scr, h.sho, h.nod]
    omega
  simp [gRepr, e]
theorem Nc.shaped {k L : Nat} {d : D} (h : Nc k L d) (hk : k ≤ 60 := by decide) : SeqAt.shaped d = true := by
  have := h.dep
  simp [SeqAt.shaped, h.lay]
  omega
theorem Nc.eq {k L k' L' : Nat} {d e : D} (h : Nc k L d) (g : Nc k' L' e) (hk : k ≤ 60 := by decide) (hk' : k' ≤ 60 := by decide) : gEq d e = some (.bool (PyData.eqv d e)) := by
  simp [gEq, gEqq, h.nd, g.nd, h.shaped hk, g.shaped hk']
theorem Nc.ne {k L k' L' : Nat} {d e : D} (h : Nc k L d) (g : Nc k' L' e) (hk : k ≤ 60 := by decide) (hk' : k' ≤ 60 := by decide) : gNe d e = some (.bool (!PyData.eqv d e)) := by
  simp [gNe, gEqq, h.nd, g.nd, h.shaped hk, g.shaped hk']
theorem Nc.neS {k L : Nat} {d : D} (h : Nc k L d) (hk : k ≤ 60 := by decide) : gNe d d = some (.bool false) := by
  rw [h.ne h hk hk, TT.eqv_refl d h.nd]; rfl
/-- in a dict whose keys are tuples of whole numbers -/
theorem in_tups {K : List (List Int)} {b : List Int} : gIn (tupD b) (.dict ((.bool true, .none) :: tupE K)) = some (.bool (decide (b ∈ K))) := by
  have inj : ∀ k : List Int, (keyT (tupD k) = some (b.map Sum.inl)) ↔ k = b := fun k => by
    rw [keyT_tupD]
    constructor
    · intro z
      have z := Option.some.inj z
      have := congrArg (List.map fun x : Key => match x with | .inl i => i | .inr _ => 0) z
      simpa [List.map_map, Function.comp_def] using this
    · rintro rfl; rfl
  have e0 : gIn (tupD b) (.dict ((.bool true, .none) :: tupE K)) = ((keyT (tupD b)).bind fun ks => some (findT (tupE K) ks)).bind fun r => some (.bool (xor false r.isSome)) := rfl
  rw [e0, keyT_tupD]
  simp only [Option.bind_some, Bool.false_bne]
  congr 2
  unfold findT
  rw [Option.isSome_map, Bool.eq_iff_iff, List.find?_isSome]
  constructor
  · rintro ⟨x, hx, h2⟩
    obtain ⟨k, hk, rfl⟩ := List.mem_map.mp hx
    have := (inj k).mp (by simpa using h2)
    simpa using this ▸ hk
  · intro hb
    exact ⟨(tupD b, .bool true), List.mem_map.mpr ⟨b, by simpa using hb, rfl⟩, by simp [keyT_tupD]⟩
/-- a comprehension with a test, nothing of the state changes -/
theorem lc_filter {vs : List Nat} {t : Tg} {p : Bf} {f : Df} {e0 : En} (c : D → Bool) (g : D → D) : ∀ {ds : List D}, (∀ x ∈ ds, We (t x e0) fun e1 => Wb p e1 fun b e => b = c x ∧ Wc b (Wd f e fun y e => y = g x ∧ We (wipeE vs e) fun e => e = e0) (We (wipeE vs e) fun e => e = e0)) → lcGo vs t p f ds e0 = some ((ds.filter c).map g, e0)
  | [], _ => rfl
  | x :: ds, h => by
    obtain ⟨e1, h1, b, e2, h2, rfl, k1, k2⟩ := h x List.mem_cons_self
    have r := lc_filter (c := c) (g := g) (ds := ds) fun z hz => h z (List.mem_cons_of_mem _ hz)
    cases q : c x with
    | true =>
      obtain ⟨y, e3, h3, rfl, e4, h4, e5⟩ := k1 q
      rw [e5] at h4
      rw [q] at h2
      simp [lcGo, h1, h2, h3, h4, r, q]
    | false =>
      obtain ⟨e4, h4, e5⟩ := k2 q
      rw [e5] at h4
      rw [q] at h2
      simp [lcGo, h1, h2, h4, r, q]
end DL
namespace DL
open PySem L2
theorem wd_lam {h : D ⊕ Ex → Option D} {f : Dx} {e : En} {Q : D → En → Prop} (hh : Wz f e fun r e => Wx (h r) fun d => Q d e) : Wd (eLam h f) e Q := by
  obtain ⟨r, e1, h1, d, h2, k⟩ := hh
  exact ⟨d, e1, by simp [eLam, h1, h2], k⟩
theorem wi_kT {f : Df} {e : En} {Q : List D → En → Prop} (h : Wd f e fun d e => ∃ es, d = .dict ((.bool true, .none) :: es) ∧ Q (es.map (·.1)) e) : Wi (iKT f) e Q := by
  obtain ⟨d, e1, h1, es, rfl, k⟩ := h
  exact ⟨_, _, by simp [iKT, h1], k⟩
def Rs.finXN (fl : List Bool) (Q : D ⊕ Ex → List D → Prop) : Rs → Prop
  | .rn d e => ∃ os, outsAt (slotsOf 0 fl) e = some os ∧ Q (.inl d) os
  | .xx x e => ∃ os, outsAt (slotsOf 0 fl) e = some os ∧ Q (.inr x) os
  | _ => False
theorem wfx_ofN {n : Nat} {fl : List Bool} {body : Sf} {ds : List D} {Q : D ⊕ Ex → List D → Prop} (hl : ds.length = fl.length) (h : Ws body (env0 n fl ds) (Rs.finXN fl Q)) : Wfx (gOfXN n fl body ds) Q := by
  obtain ⟨r, h1, k⟩ := h
  cases r with
  | rn d e1 => obtain ⟨os, h2, k⟩ := k; exact ⟨_, _, by simp [gOfXN, hl, h1, h2], k⟩
  | xx x e1 => obtain ⟨os, h2, k⟩ := k; exact ⟨_, _, by simp [gOfXN, hl, h1, h2], k⟩
  | nx e1 => exact k.elim
  | rt d e1 => exact k.elim
  | bk e1 => exact k.elim
  | ct e1 => exact k.elim
  | rm s d e1 => exact k.elim
theorem rn_rn {fl : List Bool} {Q : D ⊕ Ex → List D → Prop} {d : D} {e : En} {os : List D} (h : outsAt (slotsOf 0 fl) e = some os) (k : Q (.inl d) os) : Rs.finXN fl Q (.rn d e) := ⟨os, h, k⟩
theorem rn_xx {fl : List Bool} {Q : D ⊕ Ex → List D → Prop} {x : Ex} {e : En} {os : List D} (h : outsAt (slotsOf 0 fl) e = some os) (k : Q (.inr x) os) : Rs.finXN fl Q (.xx x e) := ⟨os, h, k⟩
end DL
namespace DL
open PySem L2 TT
local macro_rules | `(tactic| walk_at "go") => `(tactic| repeat (with_reducible first
  | (show Wd _ _ _; first | refine wd_c ?_ | refine wd_op2 ?_ | refine wd_get1 ?_ | refine wd_dc ?_ | refine wd_get2 ?_ | refine wd_fz ?_ | refine wd_methR ?_ | refine wd_disp (by decide) ?_ | refine wd_appP ?_ | refine wd_op1 ?_ | refine wd_opA ?_ | refine wd_and ?_ | refine wd_or ?_ | refine wd_not ?_ | refine wd_if ?_ | refine wd_chain ?_ | refine wd_tup ?_ | refine wd_lst ?_ | refine wd_call ?_ | refine wd_meth ?_ | refine wd_slice ?_ | refine wd_dict0 ?_ | refine wd_lc ?_ | refine wd_var (by with_unfolding_all rfl) ?_ | refine wd_varO (by with_unfolding_all rfl) ?_)
  | (show Wo _ _ _; first | refine wo_ex ?_ | refine wo_f (by with_unfolding_all rfl) ?_ | refine wo_o (by with_unfolding_all rfl) ?_ | refine wo_p (by with_unfolding_all rfl) ?_)
  | (show Wl _ _ _; first | refine wl_f ?_ | refine wl_s (by with_unfolding_all rfl) ?_)
  | (show Wx _ _; first | refine wx_isN ?_ | refine wq_isX (by with_unfolding_all rfl) ?_ | refine wq_xf (by with_unfolding_all rfl) ?_ | refine wx_eqI ?_ | refine wx_neI ?_ | refine wx_eqB ?_ | refine wx_neB ?_ | refine wx_eqS ?_ | refine wx_neS ?_ | refine wx_lt ?_ | refine wx_le ?_ | refine wx_gt ?_ | refine wx_ge ?_ | refine wx_toT (by omega) ?_ | refine wx_fromT (by omega) ?_ | refine wx_toL (by omega) ?_ | refine wx_fromL (by omega) ?_ | refine wx_mul (by omega) ?_ | refine wx_mod (by omega) ?_ | refine wx_div (by omega) (by first | assumption | decide) ?_ | refine wx_pow (by decide) ?_ | refine wx_addT (by simp; omega) ?_ | refine wx_addL (by simp; omega) ?_ | refine wq_isiT (by with_unfolding_all rfl) ?_ | refine wq_isiF (by with_unfolding_all rfl) ?_ | refine wq_len (by with_unfolding_all rfl) ?_ | refine wq_ix (by with_unfolding_all rfl) ?_ | refine wq_ixs (by with_unfolding_all rfl) ?_ | refine wq_add (by with_unfolding_all rfl) ?_ | refine wq_sub (by with_unfolding_all rfl) ?_ | refine wq_neg (by with_unfolding_all rfl) ?_ | refine wq_rev (by with_unfolding_all rfl) ?_ | refine wq_cut (by with_unfolding_all rfl) ?_ | refine wq_int (by with_unfolding_all rfl) ?_ | refine wq_lst (by with_unfolding_all rfl) ?_ | refine wq_tup (by with_unfolding_all rfl) ?_ | refine wq_max (by with_unfolding_all rfl) ?_ | refine wq_min (by with_unfolding_all rfl) ?_ | refine wq_all (by with_unfolding_all rfl) ?_)
  | (show Ws _ _ _; first | refine ws_setT ?_ | refine ws_retT ?_ | refine ws_putD ?_ | refine ws_seq ?_ | refine ws_nx ?_ | refine ws_if ?_ | refine ws_set ?_ | refine ws_setN ?_ | refine ws_drop ?_ | refine ws_ret ?_ | refine ws_retN ?_ | refine ws_unp ?_ | refine ws_setIx ?_ | refine ws_for ?_ | refine ws_try ?_ | refine ws_raise ?_ | refine ws_raise0 ?_ | refine ws_dropX ?_ | refine ws_retX ?_ | refine ws_retO (by with_unfolding_all rfl) ?_)
  | (show Wv _ _ _; first | refine wv_nil ?_ | refine wv_cons ?_)
  | (show Wk _ _ _; first | refine wk_nil ?_ | refine wk_cons ?_)
  | (show Wb _ _ _; first | refine wb_d ?_ | refine wb_and ?_ | refine wb_or ?_ | refine wb_not ?_ | refine wb_tt ?_)
  | (show Wc _ _ _; first | refine wc_t ?_ | refine wc_f ?_ | refine wc_T (by with_unfolding_all rfl) ?_ | refine wc_F (by with_unfolding_all rfl) ?_)
  | (show ∃ _, _; first | refine evp_nil ?_ | refine evp_cons ?_ | refine pk_yes (by with_unfolding_all rfl) (by with_unfolding_all rfl) ?_ | refine pk_no (by with_unfolding_all rfl) ?_ | refine co_nx (by with_unfolding_all rfl) ?_ | refine co_rt ?_ | refine co_rn ?_ | refine ⟨_, rfl, ?_⟩ | refine Exists.intro _ (And.intro rfl ?_))
  | (show Wy _ _; first | refine wy_eq (by with_unfolding_all rfl) ?_)
  | (show We _ _; first | refine we_eq (by with_unfolding_all rfl) ?_ | refine we_appO (by with_unfolding_all rfl) (by first | (simp; done) | (simp; omega)) ?_ | refine we_appW (by with_unfolding_all rfl) (by first | (simp; done) | (simp; omega)) ?_)
  | (show _ ∧ _; first | refine and_lenM (by simp) (by simp) ?_ | refine and_put (by with_unfolding_all rfl) ?_ | refine and_len (by first | (with_unfolding_all decide) | (simp; done) | (simp; omega)) ?_)
  | (show Rs.go _ _ _; first | refine rg_rm ?_ | refine rg_nx ?_ | refine rg_rt ?_ | refine rg_rn ?_ | refine rg_xx ?_)
  | (show Wi _ _ _; first | refine wi_k ?_ | refine wi_l ?_ | refine wi_t ?_ | refine wi_enT ?_ | refine wi_enL ?_ | refine wi_zipT ?_ | refine wi_r1 ?_)
  | (show Wp _ _ _; first | refine wp_no ?_ | refine wp_at ?_)
  | (show Rs.fin _ _ _; first | refine rf_nx ?_ | refine rf_rt ?_)
  | (show Rs.finN _ _ _; first | refine rf_rn ?_)
  | (show Rs.onX _ _ _; first | refine ox_rt ?_ | refine ox_rn ?_ | refine ox_xx ?_)
  | (show Rs.finX _ _ _; first | refine rx_nx (by with_unfolding_all rfl) ?_ | refine rx_rt (by with_unfolding_all rfl) ?_ | refine rx_xx (by with_unfolding_all rfl) ?_)
  | (show Wz _ _ _; first | refine wz_call ?_)
  | (show Wm _ _ _; first | refine wm_f ?_ | refine wm_n ?_ | refine wm_tup ?_ | refine wm_call ?_ | refine wm_ow (by with_unfolding_all rfl) (by with_unfolding_all rfl) ?_)
  | (show Wms _ _ _; first | refine wms_nil ?_ | refine wms_cons ?_)
  | (show Rs.wh _ _ _ _; first | refine rw_rt ?_ | refine rw_rn ?_ | refine rw_rm ?_)
  | (show Wpl _ _ _; first | refine wpl_sub ?_ | refine wpl_var (by with_unfolding_all rfl) ?_)
  | (show Wq _ _ _; first | refine wq_c ?_ | refine wq_v (by with_unfolding_all rfl) ?_)
  | (show Rs.tr _ _ _; first | refine tr_nx ?_ | refine tr_rt ?_ | refine tr_xx ?_)
  | (show Rs.finM _ _ _ _; first | refine rf_rm (by with_unfolding_all rfl) ?_)))
theorem wi_r2 {a b : Opd} {e : En} {Q : List D → En → Prop} (h : Wv [a, b] e fun us e => Wk us e fun ds => ∃ m n : Int, ds = [.int m, .int n] ∧ (-4611686018427387904 ≤ m ∧ m < 4611686018427387904 ∧ -4611686018427387904 ≤ n ∧ n < 4611686018427387904) ∧ Q (rng m (n - m).toNat) e) : Wi (iR2 a b) e Q := by
  obtain ⟨us, e1, h1, ds, h2, m, n, rfl, hb, k⟩ := h
  exact ⟨_, _, by simp [iR2, h1, h2]; omega, k⟩
theorem we_insO {i : Nat} {ds : List D} {x : D} {n : Int} {e : En} {Q : En → Prop} (h : e[i]? = some (.ow (.list ds))) (hl : ds.length < 100000) (h0 : 0 ≤ n) (h1 : n < 9223372036854775808) (k : Q (e.set i (.ow (.list (ds.take n.toNat ++ [x] ++ ds.drop n.toNat))))) : We (chgAt i (gInsert [.int n, x]) e) Q := by
  refine ⟨_, ?_, k⟩
  unfold chgAt
  rw [h]
  have c : ds.length < 100000 ∧ 0 ≤ n ∧ n < 2 ^ 63 := ⟨hl, h0, h1⟩
  show (gInsert [.int n, x] (.list ds)).bind _ = _
  unfold gInsert
  dsimp only
  rw [if_pos c]
  rfl
def dPrice : Sf := (sRet (op2 gIxs (.ex (eLst [(.ex (eC (.int 1))), (.ex (eC (.int 1))), (.ex (eC (.int 2))), (.ex (eC (.int 3))), (.ex (op2 gAdd (.ex (eC (.int 1))) (.ex (eCall [true, false] gTake [(.vr 0), (.ex (eC (.int 9)))])))), (.ex (op2 gAdd (.ex (eC (.int 1))) (.ex (eCall [true, false] gTake [(.vr 0), (.ex (eC (.int 99)))]))))])) (.ex (eCall [true, false] gTake [(.vr 0), (.ex (eC (.int 6)))]))))
def gPrice : List D → Option (D × List D) := gOf 1 [true] dPrice
def dWeb : Sf := (sq (sSet 2 (op2 gAdd (.ex (eC (.int 1))) (.ex (eCall [true, false] gTake [(.vr 0), (.ex (eVar 1))])))) (sq (sSetN 3 (eLst [])) (sq (sFor (tgName 4) (iR1 (.vr 2)) (sFor (tgName 5) (iR2 (.ex (op2 gAdd (.vr 4) (.ex (eC (.int 1))))) (.vr 2)) (sIf (bAnd (bD (op2 gLt (.ex (opA gLen [(.vr 3)])) (.ex (eC (.int 20))))) (bD (op2 gEq (.ex (eCall [true, false] gTake [(.vr 0), (.ex (op2 gIxs (.ex (eLst [(.ex (eC (.int 2))), (.ex (eC (.int 3)))])) (.ex (eCall [true, false] gTake [(.vr 0), (.ex (eC (.int 2)))]))))])) (.ex (eC (.int 0)))))) (sDrop (eMeth 3 gInsert [(.ex (eCall [true, false] gTake [(.vr 0), (.ex (op2 gAdd (.ex (opA gLen [(.vr 3)])) (.ex (eC (.int 1)))))])), (.ex (eTup [(.ex (eVar 4)), (.ex (eVar 5)), (.ex (eCall [true] gPrice [(.vr 0)])), (.ex (eCall [true] gPrice [(.vr 0)]))]))])) sNx))) (sRet (eTup [(.ex (eVar 2)), (.ex (eVar 3))])))))
def gWeb : List D → Option (D × List D) := gOf 6 [true, false] dWeb
theorem price_spec {P : D} (hP : IsPool P) : Wf (gPrice [P]) fun d os => ∃ (x : Int) (P' : D), d = .int x ∧ os = [P'] ∧ 1 ≤ x ∧ x ≤ 99 ∧ IsPool P' := by
  unfold gPrice dPrice
  refine wf_of rfl ?_
  walk_at "go"
  refine take_use hP (by decide) (by decide) fun x1 P1 a1 b1 hP1 => ?_
  walk_at "go"
  refine take_use hP1 (by decide) (by decide) fun x2 P2 a2 b2 hP2 => ?_
  walk_at "go"
  refine take_use hP2 (by decide) (by decide) fun x3 P3 a3 b3 hP3 => ?_
  walk_at "go"
  have all : ∀ d ∈ [PyData.int 1, .int 1, .int 2, .int 3, .int (1 + x1), .int (1 + x2)], ∃ x : Int, d = .int x ∧ 1 ≤ x ∧ x ≤ 99 := by
    intro d hd
    simp only [List.mem_cons, List.not_mem_nil, or_false] at hd
    rcases hd with rfl | rfl | rfl | rfl | rfl | rfl <;> exact ⟨_, rfl, by omega, by omega⟩
  obtain ⟨d, hd⟩ : ∃ d, [PyData.int 1, .int 1, .int 2, .int 3, .int (1 + x1), .int (1 + x2)][x3.toNat]? = some d := ⟨_, List.getElem?_eq_getElem (by simp; omega)⟩
  obtain ⟨x, rfl, h1, h2⟩ := all d (List.mem_of_getElem? hd)
  refine wx_ixsL a3 hd ?_
  walk_at "go"
  exact ⟨x, P3, rfl, rfl, h1, h2, hP3⟩
/-- a tie's houses and prices -/
abbrev Tie := Int × Int × Int × Int
def tieD (t : Tie) : D := .tuple [.int t.1, .int t.2.1, .int t.2.2.1, .int t.2.2.2]
def key (t : Tie) : Int × Int := (t.1, t.2.1)
structure Web (m : Int) (ts : List Tie) : Prop where
  lo : 1 ≤ m
  hi : m ≤ 8
  len : ts.length ≤ 20
  ok : ∀ t ∈ ts, 0 ≤ t.1 ∧ t.1 < t.2.1 ∧ t.2.1 < m ∧ 1 ≤ t.2.2.1 ∧ t.2.2.1 ≤ 99 ∧ 1 ≤ t.2.2.2 ∧ t.2.2.2 ≤ 99
  nd : (ts.map key).Nodup
def webD (m : Int) (ts : List Tie) : D := .tuple [.int m, .list (ts.map tieD)]
theorem web_spec {P : D} (hP : IsPool P) {k : Int} (k0 : 1 ≤ k) (k8 : k ≤ 8) : Wf (gWeb [P, .int k]) fun d os => ∃ (m : Int) (ts : List Tie) (P' : D), d = webD m ts ∧ os = [P'] ∧ Web m ts ∧ m ≤ k ∧ IsPool P' := by
  unfold gWeb dWeb
  refine wf_of rfl ?_
  walk_at "go"
  refine take_use hP (by omega) (by omega) fun x1 P1 a1 b1 hP1 => ?_
  walk_at "go"
  refine ⟨by omega, ?_⟩
  generalize hm : 1 + x1 = m
  have m1 : 1 ≤ m := by omega
  have m8 : m ≤ k := by omega
  clear hm
  let I : Nat → Nat → En → Prop := fun a b e => ∃ (ts : List Tie) (P : D) (s4 s5 : Sv), MP s4 ∧ MP s5 ∧ IsPool P ∧ e = [.pw P, .fz (.int k), .fz (.int m), .ow (.list (ts.map tieD)), s4, s5] ∧ Web m ts ∧ ∀ t ∈ ts, t.1 < (a : Int) ∨ (t.1 = (a : Int) ∧ t.2.1 < (b : Int))
  refine for_step (k := 0) (fun a e => I a 0 e) ⟨[], P1, .un, .un, rfl, rfl, hP1, rfl, ⟨m1, by omega, by simp, (fun t h => nomatch h), by simp⟩, (fun t h => nomatch h)⟩ ?_ ?_
  · rintro a x _ hx ⟨ts, P2, s4, s5, q4, q5, hP2, rfl, W, lt⟩
    obtain ⟨ha, rfl⟩ := rng_get hx
    simp only [Nat.zero_add, Int.zero_add] at lt ⊢
    refine put_one (s := s4) q4 ?_
    walk_at "go"
    refine wi_r2 ?_
    walk_at "go"
    refine ⟨_, _, rfl, by omega, ?_⟩
    walk_at "go"
    refine for_step (k := a + 1) (Q := Rs.onX (I (a + 1) 0) _) (fun b e => ∃ (ts : List Tie) (P : D) (s5 : Sv), MP s5 ∧ IsPool P ∧ e = [.pw P, .fz (.int k), .fz (.int m), .ow (.list (ts.map tieD)), .fz (.int (a : Int)), s5] ∧ Web m ts ∧ ∀ t ∈ ts, t.1 < (a : Int) ∨ (t.1 = (a : Int) ∧ t.2.1 < (b : Int))) ⟨ts, P2, s5, q5, hP2, rfl, W, fun t ht => by have := lt t ht; omega⟩ ?_ ?_
    · rintro b x _ hx ⟨ts, P3, s5, q5, hP3, rfl, W, lt⟩
      obtain ⟨hb, rfl⟩ := rng_get hx
      refine put_one (s := s5) q5 ?_
      walk_at "go"
      refine wc_s (fun q => ?_) (fun q => ?_)
      · walk_at "go"
        refine take_use hP3 (by decide) (by decide) fun x1 P4 a1 b1 hP4 => ?_
        walk_at "go"
        obtain ⟨d, hd⟩ : ∃ d, [PyData.int 2, .int 3][x1.toNat]? = some d := ⟨_, List.getElem?_eq_getElem (by simp; omega)⟩
        obtain ⟨n, rfl, n2, n3⟩ : ∃ n : Int, d = .int n ∧ 2 ≤ n ∧ n ≤ 3 := by
          have := List.mem_of_getElem? hd
          simp only [List.mem_cons, List.not_mem_nil, or_false] at this
          rcases this with rfl | rfl <;> exact ⟨_, rfl, by decide, by decide⟩
        refine wx_ixsL a1 hd ?_
        walk_at "go"
        refine take_use hP4 (by omega) (by omega) fun x2 P5 a2 b2 hP5 => ?_
        walk_at "go"
        refine wc_s (fun q2 => ?_) (fun q2 => ?_)
        · walk_at "go"
          refine take_use hP5 (by omega) (by simp at q ⊢; omega) fun x3 P6 a3 b3 hP6 => ?_
          walk_at "go"
          refine wf_use (price_spec hP6) ?_
          rintro _ _ ⟨p, P7, rfl, rfl, p1, p2, hP7⟩
          walk_at "go"
          refine wf_use (price_spec hP7) ?_
          rintro _ _ ⟨p', P8, rfl, rfl, p1', p2', hP8⟩
          walk_at "go"
          simp only [decide_eq_true_eq, List.length_map] at q b3
          have e1 : ((a + 1 : Nat) : Int) + (b : Int) = (a : Int) + 1 + b := by omega
          have eT : (ts.map tieD).take x3.toNat ++ [PyData.tuple [.int (a : Int), .int ((a : Int) + 1 + b), .int p, .int p']] ++ (ts.map tieD).drop x3.toNat = (ts.take x3.toNat ++ [(((a : Int), ((a + 1 : Nat) : Int) + (b : Int), p, p') : Tie)] ++ ts.drop x3.toNat).map tieD := by
            rw [e1]
            simp [List.map_take, List.map_drop, tieD]
          refine we_insO (by with_unfolding_all rfl) (by simp; omega) a3 (by omega) ?_
          rw [eT]
          refine ⟨_, P8, _, rfl, hP8, rfl, ⟨m1, W.hi, ?_, ?_, ?_⟩, ?_⟩
          · simp; omega
          · intro t ht
            simp only [List.append_assoc, List.singleton_append, List.mem_append, List.mem_cons] at ht
            rcases ht with ht | rfl | ht
            · exact W.ok t (List.mem_of_mem_take ht)
            · refine ⟨?_, ?_, ?_, p1, p2, p1', p2'⟩ <;> simp <;> omega
            · exact W.ok t (List.mem_of_mem_drop ht)
          · have nd := W.nd
            rw [← List.take_append_drop x3.toNat ts, List.map_append, List.nodup_append] at nd
            obtain ⟨n1, n2, n3⟩ := nd
            have fresh : ∀ t ∈ ts, key t ≠ ((a : Int), ((a + 1 : Nat) : Int) + (b : Int)) := fun t ht z => by
              have h1 := congrArg Prod.fst z
              have h2 := congrArg Prod.snd z
              simp only [key] at h1 h2
              have := lt t ht
              omega
            simp only [List.append_assoc, List.singleton_append, List.map_append, List.map_cons]
            rw [List.nodup_append]
            refine ⟨n1, List.nodup_cons.mpr ⟨fun z => ?_, n2⟩, fun x hx y hy z => ?_⟩
            · obtain ⟨t, ht, e⟩ := List.mem_map.mp z
              exact fresh t (List.mem_of_mem_drop ht) e
            · rcases List.mem_cons.mp hy with rfl | hy
              · obtain ⟨t, ht, e⟩ := List.mem_map.mp hx
                exact fresh t (List.mem_of_mem_take ht) (e.trans z)
              · exact n3 x hx y hy z
          · intro t ht
            simp only [List.append_assoc, List.singleton_append, List.mem_append, List.mem_cons] at ht
            rcases ht with ht | rfl | ht
            · have := lt t (List.mem_of_mem_take ht); omega
            · right; simp; omega
            · have := lt t (List.mem_of_mem_drop ht); omega
        · walk_at "go"
          exact ⟨ts, P5, _, rfl, hP5, rfl, W, fun t ht => by have := lt t ht; omega⟩
      · walk_at "go"
        exact ⟨ts, P3, _, rfl, hP3, rfl, W, fun t ht => by have := lt t ht; omega⟩
    · rintro _ ⟨ts, P3, s5, q5, hP3, rfl, W, lt⟩
      exact ⟨ts, P3, _, s5, rfl, q5, hP3, rfl, W, fun t ht => by
        have := lt t ht
        have := W.ok t ht
        omega⟩
  · rintro _ ⟨ts, P2, s4, s5, q4, q5, hP2, rfl, W, lt⟩
    walk_at "go"
    exact ⟨m, ts, P2, rfl, rfl, W, m8, hP2⟩
end DL
namespace DL
open PySem L2 PySem.Spec PyProof.Rows
abbrev nS (i : Int) : Str := Str.ofString (toString i)
section
variable {f : Df} {e : En} {Q : D → En → Prop}
theorem wd_opM {g : Str → List D → Option D} {os : List Opd} (h : Wd f e fun d e1 => ∃ a, d = .str a ∧ Wv os e1 fun us e2 => Wk us e2 fun ds => Wx (g a ds) fun y => Q y e2) : Wd (opM g f os) e Q := by
  obtain ⟨_, e1, h1, a, rfl, us, e2, h2, ds, h3, y, h4, k⟩ := h
  exact ⟨_, _, by simp [opM, h1, h2, h3, h4], k⟩
theorem wx_strI {i : Int} {Q : D → Prop} (h : i.natAbs < 10 ^ 60) (k : Q (.str (nS i))) : Wx (gStrI [.int i]) Q := ⟨_, by unfold gStrI; dsimp only; rw [if_pos (log62 h)], k⟩
theorem wx_starts {a b : Str} {Q : D → Prop} (k : Q (.bool (Txt.startswith a b))) : Wx (gStarts a [.str b]) Q := ⟨_, rfl, k⟩
theorem strsOf_map : ∀ ys : List Str, strsOf (ys.map PyData.str) = some ys
  | [] => rfl
  | y :: ys => by simp [strsOf, strsOf_map ys]
theorem wx_joinL {a : Str} {ds : List D} {ys : List Str} {Q : D → Prop} (h : ds = ys.map .str) (hz : (ys.map (·.length)).sum + ys.length * a.length ≤ 16777216) (k : Q (.str (Txt.join a ys))) : Wx (gJoin a [.list ds]) Q := by
  subst h
  exact ⟨_, by simp [gJoin, strsOf_map, hz], k⟩
theorem wx_split {a b : Str} {Q : D → Prop} (h : b.length ≠ 0) (hz : a.length + 2 ≤ 16777216) (k : Q (.list ((Txt.split a b).map .str))) : Wx (gSplit a [.str b]) Q := ⟨_, by simp [gSplit, h, hz], k⟩
theorem wx_intS {a : Str} {n : Int} {Q : D → Prop} (h : PySem.intText? a = some n) (hl : a.length ≤ 640) (k : Q (.int n)) : Wx (gIntS [.str a]) Q := ⟨_, by simp [gIntS, h, hl], k⟩
theorem wx_inS {c : Nat} {z : Str} {Q : D → Prop} (k : Q (.bool (decide (c ∈ z.cps.toList)))) : Wx (gInS false (.str ⟨#[c]⟩) (.str z)) Q := ⟨_, by simp [gInS], k⟩
theorem wd_fmtI (h : Wd f e fun d e1 => ∃ i : Int, d = .int i ∧ i.natAbs < 10 ^ 60 ∧ Q (.str (nS i)) e1) : Wd (eFmt f) e Q := by
  obtain ⟨_, e1, h1, i, rfl, hl, k⟩ := h
  exact ⟨_, _, by unfold eFmt; rw [h1]; dsimp only [Option.bind_some]; rw [if_pos (log62 hl)], k⟩
def Wj (fs : List Df) (acc : Str) (e : En) (Q : Str → En → Prop) : Prop := ∃ o e', jsGo fs acc e = some (o, e') ∧ Q o e'
theorem wj_nil {acc : Str} {Q : Str → En → Prop} (k : Q acc e) : Wj [] acc e Q := ⟨_, _, rfl, k⟩
theorem wj_cons {fs : List Df} {acc : Str} {Q : Str → En → Prop} (h : Wd f e fun d e1 => ∃ y, d = .str y ∧ (acc ++ y).length ≤ 16777216 ∧ Wj fs (acc ++ y) e1 Q) : Wj (f :: fs) acc e Q := by
  obtain ⟨_, e1, h1, y, rfl, hl, o, e2, h2, k⟩ := h
  exact ⟨_, _, by simp [jsGo, h1, hl, h2], k⟩
theorem wd_js {fs : List Df} (h : Wj fs Str.empty e fun o e1 => Q (.str o) e1) : Wd (eJs fs) e Q := by
  obtain ⟨o, e1, h1, k⟩ := h
  exact ⟨_, _, by simp [eJs, h1], k⟩
theorem wi_s {Q : List D → En → Prop} (h : Wd f e fun d e1 => ∃ x, d = .str x ∧ Q (signs x) e1) : Wi (iS f) e Q := by
  obtain ⟨_, e1, h1, x, rfl, k⟩ := h
  exact ⟨_, _, by simp [iS, h1], k⟩
theorem wi_enC {c : Nat} {Q : List D → En → Prop} (h : Wd f e fun d e => ∃ ds, d = .list ds ∧ Q (numbered c ds) e) : Wi (iEnC c f) e Q := by
  obtain ⟨_, e1, h1, b, rfl, k⟩ := h
  exact ⟨_, _, by simp [iEnC, h1], k⟩
theorem wi_zipSL {g : Df} {st : Bool} {Q : List D → En → Prop} (h : Wd f e fun d e => ∃ x, d = .str x ∧ Wd g e fun d e => ∃ es, d = .list es ∧ x.cps.size = es.length ∧ Q (pairs (signs x) es) e) : Wi (iZipSL st f g) e Q := by
  obtain ⟨_, e1, h1, x, rfl, _, e2, h2, es, rfl, hl, k⟩ := h
  exact ⟨_, _, by simp [iZipSL, h1, h2, hl], k⟩
end
theorem starL2 {f : D} {gs : List D} {e : En} {i j : Nat} {Q : En → Prop} (hl : gs.length < 16384) (h1 : mayPut e[i]? = true) (h2 : mayPut (e.set i (.fz f))[j]? = true) (k : Q ((e.set i (.fz f)).set j (.fz (.list gs)))) : We (tgStarL 2 1 (tgsCons (tgName i) (tgsCons (tgName j) tgsNil)) (.list (f :: gs)) e) Q := by
  refine ⟨_, ?_, k⟩
  have a : (1 : Nat) < 2 ∧ 2 ≤ (f :: gs).length + 1 ∧ (f :: gs).length ≤ 16384 := ⟨by decide, by simp, by simp; omega⟩
  have b : (f :: gs).length + 1 - 2 = gs.length := by simp
  unfold tgStarL
  simp only [a, and_self, if_true, b]
  simp [tgsCons, tgName, tgsNil, put, h1, h2]
theorem starO2 {f : D} {gs : List D} {e : En} {i j : Nat} {Q : En → Prop} (hl : gs.length ≤ 16000) (h1 : mayPut e[i]? = true) (h2 : mayPut (e.set i (.fz f))[j]? = true) (k : Q ((e.set i (.fz f)).set j (.ow (.list gs)))) : We (tgStarO i j (.tuple (f :: gs)) e) Q := ⟨_, by simp [tgStarO, hl, put, h1, h2], k⟩
theorem wz_callB {g : List D → Option ((D ⊕ Ex) × List D)} {os : List Op3} {e : En} {Q : D ⊕ Ex → En → Prop} {us : List (D ⊕ Nat)} {e1 : En} {ds : List D} (h1 : evB os e = some (us, e1)) (h2 : lookB us e1 = some ds) (h3 : Wfx (g ds) fun r outs => outs = [] ∧ simX r = true ∧ Q r e1) : Wz (eCallXB g os) e Q := by
  obtain ⟨r, outs, h3, rfl, hs, k⟩ := h3
  exact ⟨_, _, by simp [eCallXB, h1, h2, h3, hs], k⟩
def Rs.trG (m : Mt) (i : Nat) (y fld : Str) (f : Df) (Q : Rs → Prop) : Rs → Prop
  | .xx x e => m x.c = some true ∧ We (unS i e) fun e => Wd f e fun d e => We (unS i e) fun e => Q (.xx ⟨y, some (fld, d)⟩ e)
  | r => Q r
theorem ws_tryG {b : Sf} {m : Mt} {i : Nat} {y fld : Str} {f : Df} {e : En} {Q : Rs → Prop} (h : Ws b e (Rs.trG m i y fld f Q)) : Ws (sTryG b m i y fld f) e Q := by
  obtain ⟨r, h1, k⟩ := h
  cases r with
  | xx x e1 => obtain ⟨k0, e2, k1, d, e3, k2, e4, k3, k4⟩ := k; exact ⟨_, by simp [sTryG, h1, k0, k1, k2, k3], k4⟩
  | _ => exact ⟨_, by simp [sTryG, h1], k⟩
theorem trg_nx {m : Mt} {i : Nat} {y fld : Str} {f : Df} {e : En} {Q : Rs → Prop} (h : Q (.nx e)) : Rs.trG m i y fld f Q (.nx e) := h
theorem wm_tr {i : Nat} {s : Sh} {d : D} {e : En} {Q : Sh → D → En → Prop} (h : e[i]? = some (.tr s d)) (k : Q s d (e.set i .un)) : Wm (mTr i) e Q := ⟨_, _, _, by simp [mTr, h], k⟩
theorem wm_lst {ms : List Mf} {e : En} {Q : Sh → D → En → Prop} (h : Wms ms e fun ts e => ts.length ≤ 100000 ∧ Q (.lp (shP ts)) (.list (ts.map (·.2))) e) : Wm (mLst ms) e Q := by
  obtain ⟨ts, e1, h1, hl, k⟩ := h
  exact ⟨_, _, _, by simp [mLst, h1, hl], k⟩
open TL
theorem tl_nS {n : Nat} : tl (nS (n : Int)) = numL n := tl_num n
theorem len_nS {n : Nat} : (nS (n : Int)).length = (numL n).length := by rw [len_tl, tl_nS]
theorem numL_len : ∀ {k n : Nat}, n < 10 ^ (k + 1) → (numL n).length ≤ k + 1
  | 0, n, h => by rw [numL_lt (by omega)]; simp
  | k + 1, n, h => by
    by_cases h10 : n < 10
    · rw [numL_lt h10]; simp
    · rw [numL_step (by omega), List.length_append]
      have := numL_len (k := k) (n := n / 10) (by
        have : 10 ^ (k + 1 + 1) = 10 ^ (k + 1) * 10 := Nat.pow_succ ..
        omega)
      simp only [List.length_cons, List.length_nil]; omega
theorem numL_pos (n : Nat) : 1 ≤ (numL n).length := by
  have := numL_ne n
  cases h : numL n with
  | nil => exact absurd h this
  | cons _ _ => simp
theorem numL_mem {n c : Nat} (h : c ∈ numL n) : 48 ≤ c ∧ c ≤ 57 := numL_digits n c h
theorem numL_head : ∀ {n : Nat}, n ≠ 0 → (numL n).head? ≠ some 48 := by
  intro n
  induction n using Nat.strongRecOn with
  | _ n ih =>
    intro h0
    by_cases h : n < 10
    · rw [numL_lt h]; simp; omega
    · rw [numL_step (by omega)]
      have h1 := ih (n / 10) (by omega) (by omega)
      have h2 := numL_ne (n / 10)
      cases q : numL (n / 10) with
      | nil => exact absurd q h2
      | cons a r => rw [q] at h1; simpa using h1
theorem int_nS {n : Nat} (h : n < 10 ^ 60) : PySem.intText? (nS (n : Int)) = some (n : Int) := int_num (Nat.le_trans (numL_len (k := 59) h) (by decide))
theorem len60 {n : Nat} (h : n < 10 ^ 60) : (nS (n : Int)).length ≤ 640 := by rw [len_nS]; exact Nat.le_trans (numL_len (k := 59) h) (by decide)
end DL
namespace K58
open PySem L2 DL TT
section
local macro_rules | `(tactic| walk_at "go") => `(tactic| repeat (with_reducible first
  | (show Wd _ _ _; first | refine wd_c ?_ | refine wd_op2 ?_ | refine wd_get1 ?_ | refine wd_dc ?_ | refine wd_get2 ?_ | refine wd_fz ?_ | refine wd_methR ?_ | refine wd_disp (by decide) ?_ | refine wd_appP ?_ | refine wd_op1 ?_ | refine wd_opA ?_ | refine wd_and ?_ | refine wd_or ?_ | refine wd_not ?_ | refine wd_if ?_ | refine wd_chain ?_ | refine wd_tup ?_ | refine wd_lst ?_ | refine wd_call ?_ | refine wd_meth ?_ | refine wd_slice ?_ | refine wd_dict0 ?_ | refine wd_lc ?_ | refine wd_var (by with_unfolding_all rfl) ?_ | refine wd_varO (by with_unfolding_all rfl) ?_)
  | (show Wo _ _ _; first | refine wo_ex ?_ | refine wo_f (by with_unfolding_all rfl) ?_ | refine wo_o (by with_unfolding_all rfl) ?_ | refine wo_p (by with_unfolding_all rfl) ?_)
  | (show Wl _ _ _; first | refine wl_f ?_ | refine wl_s (by with_unfolding_all rfl) ?_)
  | (show Wx _ _; first | refine wx_isN ?_ | refine wq_isX (by with_unfolding_all rfl) ?_ | refine wq_xf (by with_unfolding_all rfl) ?_ | refine wx_eqI ?_ | refine wx_neI ?_ | refine wx_eqB ?_ | refine wx_neB ?_ | refine wx_eqS ?_ | refine wx_neS ?_ | refine wx_lt ?_ | refine wx_le ?_ | refine wx_gt ?_ | refine wx_ge ?_ | refine wx_toT (by omega) ?_ | refine wx_fromT (by omega) ?_ | refine wx_toL (by omega) ?_ | refine wx_fromL (by omega) ?_ | refine wx_mul (by omega) ?_ | refine wx_mod (by omega) ?_ | refine wx_div (by omega) (by first | assumption | decide) ?_ | refine wx_pow (by decide) ?_ | refine wx_addT (by simp; omega) ?_ | refine wx_addL (by simp; omega) ?_ | refine wq_isiT (by with_unfolding_all rfl) ?_ | refine wq_isiF (by with_unfolding_all rfl) ?_ | refine wq_len (by with_unfolding_all rfl) ?_ | refine wq_ix (by with_unfolding_all rfl) ?_ | refine wq_ixs (by with_unfolding_all rfl) ?_ | refine wq_add (by with_unfolding_all rfl) ?_ | refine wq_sub (by with_unfolding_all rfl) ?_ | refine wq_neg (by with_unfolding_all rfl) ?_ | refine wq_rev (by with_unfolding_all rfl) ?_ | refine wq_cut (by with_unfolding_all rfl) ?_ | refine wq_int (by with_unfolding_all rfl) ?_ | refine wq_lst (by with_unfolding_all rfl) ?_ | refine wq_tup (by with_unfolding_all rfl) ?_ | refine wq_max (by with_unfolding_all rfl) ?_ | refine wq_min (by with_unfolding_all rfl) ?_ | refine wq_all (by with_unfolding_all rfl) ?_)
  | (show Ws _ _ _; first | refine ws_setT ?_ | refine ws_retT ?_ | refine ws_putD ?_ | refine ws_seq ?_ | refine ws_nx ?_ | refine ws_if ?_ | refine ws_set ?_ | refine ws_setN ?_ | refine ws_drop ?_ | refine ws_ret ?_ | refine ws_retN ?_ | refine ws_unp ?_ | refine ws_setIx ?_ | refine ws_for ?_ | refine ws_try ?_ | refine ws_raise ?_ | refine ws_raise0 ?_ | refine ws_dropX ?_ | refine ws_retX ?_ | refine ws_retO (by with_unfolding_all rfl) ?_)
  | (show Wv _ _ _; first | refine wv_nil ?_ | refine wv_cons ?_)
  | (show Wk _ _ _; first | refine wk_nil ?_ | refine wk_cons ?_)
  | (show Wb _ _ _; first | refine wb_d ?_ | refine wb_and ?_ | refine wb_or ?_ | refine wb_not ?_ | refine wb_tt ?_)
  | (show Wc _ _ _; first | refine wc_t ?_ | refine wc_f ?_ | refine wc_T (by with_unfolding_all rfl) ?_ | refine wc_F (by with_unfolding_all rfl) ?_)
  | (show ∃ _, _; first | refine evp_nil ?_ | refine evp_cons ?_ | refine pk_yes (by with_unfolding_all rfl) (by with_unfolding_all rfl) ?_ | refine pk_no (by with_unfolding_all rfl) ?_ | refine co_nx (by with_unfolding_all rfl) ?_ | refine co_rt ?_ | refine co_rn ?_ | refine ⟨_, rfl, ?_⟩ | refine Exists.intro _ (And.intro rfl ?_))
  | (show Wy _ _; first | refine wy_eq (by with_unfolding_all rfl) ?_)
  | (show We _ _; first | refine we_eq (by with_unfolding_all rfl) ?_ | refine we_appO (by with_unfolding_all rfl) (by first | (simp; done) | (simp; omega)) ?_ | refine we_appW (by with_unfolding_all rfl) (by first | (simp; done) | (simp; omega)) ?_)
  | (show _ ∧ _; first | refine and_lenM (by simp) (by simp) ?_ | refine and_put (by with_unfolding_all rfl) ?_ | refine and_len (by first | (with_unfolding_all decide) | (simp; done) | (simp; omega)) ?_)
  | (show Rs.go _ _ _; first | refine rg_rm ?_ | refine rg_nx ?_ | refine rg_rt ?_ | refine rg_rn ?_ | refine rg_xx ?_)
  | (show Wi _ _ _; first | refine wi_k ?_ | refine wi_l ?_ | refine wi_t ?_ | refine wi_enT ?_ | refine wi_enL ?_ | refine wi_zipT ?_ | refine wi_r1 ?_)
  | (show Wp _ _ _; first | refine wp_no ?_ | refine wp_at ?_)
  | (show Rs.fin _ _ _; first | refine rf_nx ?_ | refine rf_rt ?_)
  | (show Rs.finN _ _ _; first | refine rf_rn ?_)
  | (show Rs.onX _ _ _; first | refine ox_rt ?_ | refine ox_rn ?_ | refine ox_xx ?_)
  | (show Rs.finX _ _ _; first | refine rx_nx (by with_unfolding_all rfl) ?_ | refine rx_rt (by with_unfolding_all rfl) ?_ | refine rx_xx (by with_unfolding_all rfl) ?_)
  | (show Wz _ _ _; first | refine wz_call ?_)
  | (show Wm _ _ _; first | refine wm_f ?_ | refine wm_n ?_ | refine wm_tup ?_ | refine wm_call ?_ | refine wm_ow (by with_unfolding_all rfl) (by with_unfolding_all rfl) ?_)
  | (show Wms _ _ _; first | refine wms_nil ?_ | refine wms_cons ?_)
  | (show Rs.wh _ _ _ _; first | refine rw_rt ?_ | refine rw_rn ?_ | refine rw_rm ?_)
  | (show Wpl _ _ _; first | refine wpl_sub ?_ | refine wpl_var (by with_unfolding_all rfl) ?_)
  | (show Wq _ _ _; first | refine wq_c ?_ | refine wq_v (by with_unfolding_all rfl) ?_)
  | (show Rs.tr _ _ _; first | refine tr_nx ?_ | refine tr_rt ?_ | refine tr_xx ?_)
  | (show Rs.finM _ _ _ _; first | refine rf_rm (by with_unfolding_all rfl) ?_)))
def isInt : D → Bool
  | .int _ => true
  | _ => false
theorem e_is_whole (d : D) (h : plainTy d = true) : Tells (g_is_whole [d]) (isInt d) := by
  unfold g_is_whole d_is_whole
  refine wf_of rfl ?_
  walk_at "go"
  refine wq_isi (isi_def _ _ h) ?_
  cases d with
  | int i => walk_at "go"; exact ⟨rfl, rfl⟩
  | bool b => walk_at "go"; exact ⟨rfl, rfl⟩
  | _ => walk_at "go"; exact ⟨rfl, rfl⟩
def isIn (m n : Int) : D → Bool
  | .int i => decide (m ≤ i) && decide (i < n)
  | _ => false
theorem e_is_house (n : Int) (d : D) (h : plainTy d = true) : Tells (g_is_house [.int n, d]) (isIn 0 n d) := by
  unfold g_is_house d_is_house
  refine wf_of rfl ?_
  walk_at "go"
  refine (e_is_whole d h).use ?_
  cases d with
  | int i =>
    walk_at "go"
    refine wc_s (fun h => ?_) (fun h => ?_) <;> walk_at "go" <;> exact ⟨by simp_all [isIn]; try omega, rfl⟩
  | _ => walk_at "go"; exact ⟨rfl, rfl⟩
theorem e_is_price (d : D) (h : plainTy d = true) : Tells (g_is_price [d]) (isIn 1 100 d) := by
  unfold g_is_price d_is_price
  refine wf_of rfl ?_
  walk_at "go"
  refine (e_is_whole d h).use ?_
  cases d with
  | int i =>
    walk_at "go"
    refine wc_s (fun h => ?_) (fun h => ?_) <;> walk_at "go" <;> exact ⟨by simp_all [isIn]; try omega, rfl⟩
  | _ => walk_at "go"; exact ⟨rfl, rfl⟩
theorem isIn_int {m n : Int} {d : D} (h : isIn m n d = true) : ∃ i, d = .int i ∧ m ≤ i ∧ i < n := by
  cases d <;> simp [isIn] at h
  exact ⟨_, rfl, h⟩
/-- a tie: its two houses -/
def okT (m : Int) : D → Option (List Int)
  | .tuple [.int a, .int b, .int p, .int q] => if (decide (0 ≤ a) && decide (a < m) && (decide (0 ≤ b) && decide (b < m)) && decide (a < b) && (decide (1 ≤ p) && decide (p < 100)) && (decide (1 ≤ q) && decide (q < 100))) = true then some [a, b] else none
  | _ => none
theorem okT_not {m : Int} {xs : List D} (q : (!((xs.length : Int) == 4)) = true) : okT m (.tuple xs) = none := by
  unfold okT
  split
  · rename_i h
    cases h
    simp at q
  · rfl
theorem okT_any {m : Int} {a b p q : D} (h : (isIn 0 m a && (isIn 0 m b && (match a, b with | .int i, .int j => decide (i < j) | _, _ => false) && (isIn 1 100 p && isIn 1 100 q))) = false) : okT m (.tuple [a, b, p, q]) = none := by
  cases a <;> cases b <;> cases p <;> cases q <;> try rfl
  simp only [isIn] at h
  unfold okT
  dsimp only
  rw [if_neg]
  intro z
  simp only [Bool.and_eq_true] at z
  simp [z] at h
theorem okT_yes {m : Int} {a b p q : Int} (h1 : isIn 0 m (.int a) = true) (h2 : isIn 0 m (.int b) = true) (h3 : a < b) (h4 : isIn 1 100 (.int p) = true) (h5 : isIn 1 100 (.int q) = true) : okT m (.tuple [.int a, .int b, .int p, .int q]) = some [a, b] := by
  simp only [isIn, Bool.and_eq_true, decide_eq_true_eq] at h1 h2 h4 h5
  unfold okT
  dsimp only
  rw [if_pos]
  simp [h1, h2, h3, h4, h5]
theorem four {xs : List D} (q : (!((xs.length : Int) == 4)) = false) : ∃ a b c d, xs = [a, b, c, d] := by
  match xs with
  | [] => simp at q
  | [_] => simp at q
  | [_, _] => simp at q
  | [_, _, _] => simp at q
  | [a, b, c, d] => exact ⟨a, b, c, d, rfl⟩
  | _ :: _ :: _ :: _ :: _ :: _ => simp at q; omega
/-- a plain thing, of plain parts if it is a tuple -/
def Pt (d : D) : Prop := plainTy d = true ∧ ∀ xs, d = .tuple xs → ∀ y ∈ xs, plainTy y = true
theorem e_is_tie (m : Int) (d : D) (hd : Pt d) : Tells (g_is_tie [.int m, d]) (okT m d).isSome := by
  unfold g_is_tie d_is_tie
  refine wf_of rfl ?_
  walk_at "go"
  refine wq_isi (isi_def _ _ hd.1) ?_
  cases d with
  | tuple xs =>
    have hx := hd.2 xs rfl
    walk_at "go"
    refine wc_s (fun q => ?_) (fun q => ?_)
    · walk_at "go"
      exact ⟨by rw [okT_not q]; rfl, rfl⟩
    · obtain ⟨a, b, c, d, rfl⟩ := four q
      walk_at "go"
      refine (e_is_house m a (hx a (by simp))).use ?_
      walk_at "go"
      refine wc_s (fun q1 => ?_) (fun q1 => ?_)
      · walk_at "go"
        exact ⟨by rw [okT_any (by simp at q1; simp [q1])]; rfl, rfl⟩
      · walk_at "go"
        refine (e_is_house m b (hx b (by simp))).use ?_
        walk_at "go"
        refine wc_s (fun q2 => ?_) (fun q2 => ?_)
        · walk_at "go"
          exact ⟨by rw [okT_any (by simp at q2; simp [q2])]; rfl, rfl⟩
        · simp only [Bool.not_eq_false'] at q1 q2
          obtain ⟨i, rfl, i1, i2⟩ := isIn_int q1
          obtain ⟨j', rfl, j1, j2⟩ := isIn_int q2
          walk_at "go"
          refine wc_s (fun q3 => ?_) (fun q3 => ?_)
          · walk_at "go"
            exact ⟨by rw [okT_any (by simp only [decide_eq_true_eq] at q3; simp; intros; omega)]; rfl, rfl⟩
          · walk_at "go"
            refine (e_is_price c (hx c (by simp))).use ?_
            walk_at "go"
            refine wc_s (fun q4 => ?_) (fun q4 => ?_)
            · walk_at "go"
              refine (e_is_price d (hx d (by simp))).use ?_
              walk_at "go"
              refine ⟨?_, rfl⟩
              cases q5 : isIn 1 100 d with
              | false => rw [okT_any (by simp [q5])]; rfl
              | true =>
                obtain ⟨p, rfl, _⟩ := isIn_int q4
                obtain ⟨p', rfl, _⟩ := isIn_int q5
                rw [okT_yes q1 q2 (by simp only [decide_eq_false_iff_not] at q3; omega) q4 q5]
                rfl
            · walk_at "go"
              exact ⟨by rw [okT_any (by simp [q4])]; rfl, rfl⟩
  | _ => walk_at "go"; exact ⟨rfl, rfl⟩
/-- the first tie that is none -/
def fb (m : Int) : List D → List (List Int) → Nat → Option Nat
  | [], _, _ => none
  | x :: r, s, n => match okT m x with
    | none => some n
    | some k => if k ∈ s then some n else fb m r (s ++ [k]) (n + 1)
/-- what is no web: its number -/
def dueR : D → Option D
  | .tuple [.int m, .list ts] => if (decide (1 ≤ m) && decide (m ≤ 8) && decide (ts.length ≤ 20)) = true then (fb m ts [] 0).map fun n => .int (n : Nat) else some .none
  | _ => some .none
def lookR : Option D → D ⊕ Ex
  | none => .inl .none
  | some n => .inr ⟨"NoWeb", some ("number", n)⟩
/-- a plain thing: of two plain parts, the second one a list of such as Pt -/
def Th (d : D) : Prop := plainTy d = true ∧ ∀ m ts, d = .tuple [m, ts] → plainTy m = true ∧ plainTy ts = true ∧ ∀ xs, ts = .list xs → ∀ x ∈ xs, Pt x
theorem two {xs : List D} (q : (!((xs.length : Int) == 2)) = false) : ∃ a b, xs = [a, b] := by
  match xs with
  | [] => simp at q
  | [_] => simp at q
  | [a, b] => exact ⟨a, b, rfl⟩
  | _ :: _ :: _ :: _ => simp at q; omega
theorem due_not {xs : List D} (q : (!((xs.length : Int) == 2)) = true) : dueR (.tuple xs) = some .none := by
  unfold dueR
  split
  · rename_i h
    cases h
    simp at q
  · rfl
theorem okT_shape {m : Int} {x : D} {k : List Int} (h : okT m x = some k) : ∃ a b p q : Int, x = .tuple [.int a, .int b, .int p, .int q] ∧ k = [a, b] := by
  unfold okT at h
  split at h
  · split at h
    · cases h; exact ⟨_, _, _, _, rfl, rfl⟩
    · cases h
  · cases h
theorem fb_step {m : Int} {ts : List D} {x : D} {s : List (List Int)} {i : Nat} (h : ts[i]? = some x) : fb m (ts.drop i) s i = match okT m x with
    | none => some i
    | some k => if k ∈ s then some i else fb m (ts.drop (i + 1)) (s ++ [k]) (i + 1) := by
  obtain ⟨hi, e⟩ := List.getElem?_eq_some_iff.mp h
  rw [List.drop_eq_getElem_cons hi, e]
  rfl
theorem e_look (d : D) (hd : Th d) : Wfx (g_look_at_web [d]) fun r os => r = lookR (dueR d) ∧ os = [] := by
  unfold g_look_at_web d_look_at_web
  refine wfx_of rfl ?_
  walk_at "go"
  refine wq_isi (isi_def _ _ hd.1) ?_
  cases d with
  | tuple xs =>
    walk_at "go"
    refine wc_s (fun q => ?_) (fun q => ?_)
    · walk_at "go"
      exact ⟨by rw [due_not q]; rfl, rfl⟩
    obtain ⟨m, ts, rfl⟩ := two q
    obtain ⟨h1, h2, h3⟩ := hd.2 m ts rfl
    walk_at "go"
    refine (e_is_whole m h1).use ?_
    walk_at "go"
    cases m with
    | int m =>
      walk_at "go"
      refine wc_s (fun q1 => ?_) (fun q1 => ?_)
      · walk_at "go"
        refine wc_s (fun q2 => ?_) (fun q2 => ?_)
        · walk_at "go"
          refine ⟨?_, rfl⟩
          simp only [Bool.not_eq_true', decide_eq_false_iff_not, decide_eq_true_eq] at q1 q2
          unfold dueR
          split
          · rename_i h; cases h
            rw [if_neg (by simp; omega)]; rfl
          · rfl
        · walk_at "go"
          refine wq_isi (isi_def _ _ h2) ?_
          walk_at "go"
          cases ts with
          | list ts =>
            walk_at "go"
            refine wc_s (fun q3 => ?_) (fun q3 => ?_)
            · walk_at "go"
              refine ⟨?_, rfl⟩
              simp only [decide_eq_true_eq] at q3
              show _ = lookR (if _ then _ else _)
              rw [if_neg (by simp; omega)]; rfl
            · simp only [decide_eq_true_eq, Bool.not_eq_false', decide_eq_false_iff_not] at q1 q2 q3
              have eD : dueR (.tuple [.int m, .list ts]) = (fb m ts [] 0).map fun n => .int (n : Nat) := by
                show (if _ then _ else _) = _
                rw [if_pos (by simp; omega)]
              walk_at "go"
              refine ⟨_, _, rfl, ?_⟩
              walk_at "go"
              refine for_step (k := 0) (fun k e => ∃ (s : List (List Int)) (s4 s5 : Sv), MP s4 ∧ MP s5 ∧ e = [.fz (.tuple [.int m, .list ts]), .fz (.int m), .fz (.list ts), .ow (.dict ((.bool true, .none) :: tupE s)), s4, s5] ∧ s.length = k ∧ fb m (ts.drop k) s k = fb m ts [] 0)
                ⟨[], .un, .un, rfl, rfl, rfl, rfl, rfl⟩ ?_ ?_
              · rintro i x _ hx ⟨s, s4, s5, m4, m5, rfl, sl, hf⟩
                obtain ⟨y, hy, rfl⟩ := numbered_get hx
                simp only [Nat.zero_add] at hf sl ⊢
                have py : Pt y := h3 ts rfl y (List.mem_of_getElem? hy)
                rw [fb_step hy] at hf
                refine we_eq (ds := [.fz (.tuple [.int m, .list ts]), .fz (.int m), .fz (.list ts), .ow (.dict ((.bool true, .none) :: tupE s)), .fz (.int (i : Nat)), .fz y]) ?_ ?_
                · simp [tgTup, tgsCons, tgsNil, tgName, put, m4, m5]
                walk_at "go"
                refine (e_is_tie m y py).use ?_
                walk_at "go"
                cases ok : okT m y with
                | none =>
                  rw [ok] at hf
                  refine wc_T (by simp) ?_
                  walk_at "go"
                  exact ⟨by rw [eD, ← hf]; rfl, rfl⟩
                | some k =>
                  rw [ok] at hf
                  obtain ⟨a, b, p, q, rfl, rfl⟩ := okT_shape ok
                  refine wc_F (by simp) ?_
                  walk_at "go"
                  refine wq_in (in_tups (b := [a, b])) ?_
                  walk_at "go"
                  refine wc_s (fun q4 => ?_) (fun q4 => ?_)
                  · walk_at "go"
                    simp only [decide_eq_true_eq] at q4
                    simp only [q4, if_true] at hf
                    exact ⟨by rw [eD, ← hf]; rfl, rfl⟩
                  · simp only [decide_eq_false_iff_not] at q4
                    simp only [q4, if_false] at hf
                    walk_at "go"
                    refine wx_eq rfl ?_
                    walk_at "go"
                    refine we_putO (by with_unfolding_all rfl) (put_tup (b := [a, b]) (by
                      have := (List.getElem?_eq_some_iff.mp hy).1
                      omega)) ?_
                    rw [if_neg q4]
                    exact ⟨s ++ [[a, b]], _, _, rfl, rfl, rfl, by simp [sl], hf⟩
              · rintro _ ⟨s, s4, s5, m4, m5, rfl, sl, hf⟩
                walk_at "go"
                refine ⟨?_, rfl⟩
                rw [eD, ← hf, numbered_len, Nat.zero_add, List.drop_eq_nil_of_le (Nat.le_refl _)]
                rfl
          | _ => walk_at "go"; exact ⟨rfl, rfl⟩
      · walk_at "go"
        refine ⟨?_, rfl⟩
        simp only [decide_eq_false_iff_not] at q1
        unfold dueR
        split
        · rename_i h; cases h
          rw [if_neg (by simp; omega)]; rfl
        · rfl
    | _ => walk_at "go"; exact ⟨rfl, rfl⟩
  | _ => walk_at "go"; exact ⟨rfl, rfl⟩
section
open TT
theorem fb_web {m : Int} : ∀ {ts : List Tie} {s : List (List Int)} {n : Nat}, (∀ t ∈ ts, 0 ≤ t.1 ∧ t.1 < t.2.1 ∧ t.2.1 < m ∧ 1 ≤ t.2.2.1 ∧ t.2.2.1 ≤ 99 ∧ 1 ≤ t.2.2.2 ∧ t.2.2.2 ≤ 99) → (s ++ ts.map fun t => [t.1, t.2.1]).Nodup → fb m (ts.map tieD) s n = none
  | [], _, _, _, _ => rfl
  | t :: ts, s, n, h, nd => by
    have ht := h t List.mem_cons_self
    have ok : okT m (tieD t) = some [t.1, t.2.1] := okT_yes (by simp [isIn]; omega) (by simp [isIn]; omega) (by omega) (by simp [isIn]; omega) (by simp [isIn]; omega)
    rw [List.map_cons] at nd ⊢
    unfold fb
    rw [ok]
    have ns : [t.1, t.2.1] ∉ s := fun z => (List.nodup_append.mp nd).2.2 _ z _ List.mem_cons_self rfl
    dsimp only
    rw [if_neg ns]
    exact fb_web (fun x hx => h x (List.mem_cons_of_mem _ hx)) (by simpa using nd)
theorem due_web {m : Int} {ts : List Tie} (W : Web m ts) : dueR (webD m ts) = none := by
  unfold webD dueR
  have := W.lo
  have := W.hi
  have := W.len
  dsimp only
  rw [if_pos (by simp; omega), fb_web W.ok]
  · rfl
  · have nd := W.nd
    rw [List.nil_append]
    have : (ts.map fun t => [t.1, t.2.1]) = (ts.map key).map fun k => [k.1, k.2] := by simp [List.map_map, Function.comp_def, key]
    rw [this]
    exact List.Pairwise.map _ (fun a b hab e => hab (by
      have h1 := congrArg (fun l : List Int => l[0]?) e
      have h2 := congrArg (fun l : List Int => l[1]?) e
      simp at h1 h2
      exact Prod.ext h1 h2)) nd
theorem tie_pt (t : Tie) : Pt (tieD t) := ⟨rfl, fun xs e y hy => by
  cases e
  simp only [List.mem_cons, List.not_mem_nil, or_false] at hy
  rcases hy with rfl | rfl | rfl | rfl <;> rfl⟩
theorem web_th (m : Int) (ts : List Tie) : Th (webD m ts) := ⟨rfl, fun m' ts' e => by
  cases e
  exact ⟨rfl, rfl, fun xs e x hx => by
    cases e
    obtain ⟨t, _, rfl⟩ := List.mem_map.mp hx
    exact tie_pt t⟩⟩
theorem look_web {m : Int} {ts : List Tie} (W : Web m ts) : Wfx (g_look_at_web [webD m ts]) fun r os => r = .inl .none ∧ os = [] := by
  refine wfx_use (e_look _ (web_th m ts)) ?_
  rintro _ _ ⟨rfl, rfl⟩
  rw [due_web W]
  exact ⟨rfl, rfl⟩
end
end
end K58
namespace K58
open PySem L2 DL TT TL
local macro_rules | `(tactic| walk_at "go") => `(tactic| repeat (with_reducible first
  | (show Wd _ _ _; first | refine wd_c ?_ | refine wd_opM ?_ | refine wd_js ?_ | refine wd_fmtI ?_ | refine wd_op2 ?_ | refine wd_get1 ?_ | refine wd_dc ?_ | refine wd_get2 ?_ | refine wd_fz ?_ | refine wd_methR ?_ | refine wd_disp (by decide) ?_ | refine wd_appP ?_ | refine wd_op1 ?_ | refine wd_opA ?_ | refine wd_and ?_ | refine wd_or ?_ | refine wd_not ?_ | refine wd_if ?_ | refine wd_chain ?_ | refine wd_tup ?_ | refine wd_lst ?_ | refine wd_call ?_ | refine wd_meth ?_ | refine wd_slice ?_ | refine wd_dict0 ?_ | refine wd_lc ?_ | refine wd_dpop ?_ | refine wd_dupd ?_ | refine wd_orT ?_ | refine wd_lam ?_ | refine wd_var (by with_unfolding_all rfl) ?_ | refine wd_varL (by with_unfolding_all rfl) ?_ | refine wd_varO (by with_unfolding_all rfl) ?_)
  | (show Wo _ _ _; first | refine wo_ex ?_ | refine wo_f (by with_unfolding_all rfl) ?_ | refine wo_o (by with_unfolding_all rfl) ?_ | refine wo_p (by with_unfolding_all rfl) ?_ | refine wo_t (by with_unfolding_all rfl) ?_)
  | (show Wl _ _ _; first | refine wl_f ?_ | refine wl_s (by with_unfolding_all rfl) ?_)
  | (show Wx _ _; first | refine wx_isN ?_ | refine wx_starts ?_ | refine wx_inS ?_ | refine wx_strI (by omega) ?_ | refine wq_isX (by with_unfolding_all rfl) ?_ | refine wq_xf (by with_unfolding_all rfl) ?_ | refine wx_eqI ?_ | refine wx_neI ?_ | refine wx_eqB ?_ | refine wx_neB ?_ | refine wx_eqS ?_ | refine wx_neS ?_ | refine wx_lt ?_ | refine wx_le ?_ | refine wx_gt ?_ | refine wx_ge ?_ | refine wq_own (by with_unfolding_all rfl) ?_ | refine wx_toT (by omega) ?_ | refine wx_fromT (by omega) ?_ | refine wx_toL (by omega) ?_ | refine wx_fromL (by omega) ?_ | refine wx_mul (by omega) ?_ | refine wx_mod (by omega) ?_ | refine wx_div (by omega) (by first | assumption | decide) ?_ | refine wx_pow (by decide) ?_ | refine wx_addT (by simp; omega) ?_ | refine wx_addL (by simp; omega) ?_ | refine wq_isiT (by with_unfolding_all rfl) ?_ | refine wq_isiF (by with_unfolding_all rfl) ?_ | refine wq_len (by with_unfolding_all rfl) ?_ | refine wq_ix (by with_unfolding_all rfl) ?_ | refine wq_ixs (by with_unfolding_all rfl) ?_ | refine wq_add (by with_unfolding_all rfl) ?_ | refine wq_sub (by with_unfolding_all rfl) ?_ | refine wq_neg (by with_unfolding_all rfl) ?_ | refine wq_rev (by with_unfolding_all rfl) ?_ | refine wq_cut (by with_unfolding_all rfl) ?_ | refine wq_int (by with_unfolding_all rfl) ?_ | refine wq_lst (by with_unfolding_all rfl) ?_ | refine wq_tup (by with_unfolding_all rfl) ?_ | refine wq_max (by with_unfolding_all rfl) ?_ | refine wq_min (by with_unfolding_all rfl) ?_ | refine wq_all (by with_unfolding_all rfl) ?_)
  | (show Ws _ _ _; first | refine ws_setT ?_ | refine ws_retT ?_ | refine ws_putD ?_ | refine ws_seq ?_ | refine ws_nx ?_ | refine ws_if ?_ | refine ws_set ?_ | refine ws_setN ?_ | refine ws_drop ?_ | refine ws_ret ?_ | refine ws_retN ?_ | refine ws_unp ?_ | refine ws_setIx ?_ | refine ws_for ?_ | refine ws_par ?_ | refine ws_setdP ?_ | refine ws_try ?_ | refine ws_tryG ?_ | refine ws_raise ?_ | refine ws_raise0 ?_ | refine ws_dropX ?_ | refine ws_retX ?_ | refine ws_retO (by with_unfolding_all rfl) ?_)
  | (show Wv _ _ _; first | refine wv_nil ?_ | refine wv_cons ?_)
  | (show Wk _ _ _; first | refine wk_nil ?_ | refine wk_cons ?_)
  | (show Wb _ _ _; first | refine wb_d ?_ | refine wb_and ?_ | refine wb_or ?_ | refine wb_not ?_ | refine wb_tt ?_)
  | (show Wc _ _ _; first | refine wc_t ?_ | refine wc_f ?_ | refine wc_T (by with_unfolding_all rfl) ?_ | refine wc_F (by with_unfolding_all rfl) ?_)
  | (show ∃ _, _; first | refine evp_nil ?_ | refine evp_cons ?_ | refine pk_yes (by with_unfolding_all rfl) (by with_unfolding_all rfl) ?_ | refine pk_no (by with_unfolding_all rfl) ?_ | refine co_nx (by with_unfolding_all rfl) ?_ | refine co_rt ?_ | refine co_rn ?_ | refine ⟨_, rfl, ?_⟩ | refine Exists.intro _ (And.intro rfl ?_))
  | (show Wy _ _; first | refine wy_eq (by with_unfolding_all rfl) ?_)
  | (show Wf _ _; first | refine wf_told ?_)
  | (show We _ _; first | refine we_eq (by with_unfolding_all rfl) ?_ | refine we_appO (by with_unfolding_all rfl) (by first | (simp; done) | (simp; omega)) ?_ | refine we_appW (by with_unfolding_all rfl) (by first | (simp; done) | (simp; omega)) ?_)
  | (show _ ∧ _; first | refine and_lenM (by simp) (by simp) ?_ | refine and_put (by with_unfolding_all rfl) ?_ | refine and_len (by first | (with_unfolding_all decide) | (simp; done) | (simp; omega)) ?_)
  | (show Rs.go _ _ _; first | refine rg_rm ?_ | refine rg_nx ?_ | refine rg_rt ?_ | refine rg_rn ?_ | refine rg_xx ?_)
  | (show Wi _ _ _; first | refine wi_k ?_ | refine wi_s ?_ | refine wi_enC ?_ | refine wi_zipSL ?_ | refine wi_l ?_ | refine wi_t ?_ | refine wi_enT ?_ | refine wi_enL ?_ | refine wi_zipT ?_ | refine wi_r1 ?_ | refine wi_items ?_ | refine wi_kT ?_)
  | (show Wp _ _ _; first | refine wp_no ?_ | refine wp_at ?_)
  | (show Rs.fin _ _ _; first | refine rf_nx ?_ | refine rf_rt ?_)
  | (show Rs.finN _ _ _; first | refine rf_rn ?_)
  | (show Rs.onX _ _ _; first | refine ox_rt ?_ | refine ox_rn ?_ | refine ox_xx ?_)
  | (show Rs.finX _ _ _; first | refine rx_nx (by with_unfolding_all rfl) ?_ | refine rx_rt (by with_unfolding_all rfl) ?_ | refine rx_xx (by with_unfolding_all rfl) ?_)
  | (show Wz _ _ _; first | refine wz_call ?_)
  | (show Wm _ _ _; first | refine wm_tr (by with_unfolding_all rfl) ?_ | refine wm_lst ?_ | refine wm_f ?_ | refine wm_n ?_ | refine wm_tup ?_ | refine wm_call ?_ | refine wm_ow (by with_unfolding_all rfl) (by with_unfolding_all rfl) ?_)
  | (show Wms _ _ _; first | refine wms_nil ?_ | refine wms_cons ?_)
  | (show Rs.wh _ _ _ _; first | refine rw_rt ?_ | refine rw_rn ?_ | refine rw_rm ?_)
  | (show Wpl _ _ _; first | refine wpl_sub ?_ | refine wpl_var (by with_unfolding_all rfl) ?_)
  | (show Wq _ _ _; first | refine wq_c ?_ | refine wq_v (by with_unfolding_all rfl) ?_)
  | (show Rs.finXN _ _ _; first | refine rn_rn (by with_unfolding_all rfl) ?_ | refine rn_xx (by with_unfolding_all rfl) ?_)
  | (show Rs.tr _ _ _; first | refine tr_nx ?_ | refine tr_rt ?_ | refine tr_xx ?_)
  | (show Rs.trG _ _ _ _ _ _ _; refine trg_nx ?_)
  | (show Rs.ld _ _ _ _; refine ld_nx ?_)
  | (show Rs.finT _ _ _ _; refine ft_nx (by with_unfolding_all rfl) ?_)
  | (show Rs.finM _ _ _ _; first | refine rf_rm (by with_unfolding_all rfl) ?_)
  | (show Wj _ _ _ _; first | refine wj_nil ?_ | refine wj_cons ?_)))
section
theorem sign_in {c : Nat} (h : 48 ≤ c ∧ c ≤ 57) : decide (c ∈ (("0123456789" : Str)).cps.toList) = true := by
  obtain ⟨h1, h2⟩ := h
  have : c = 48 ∨ c = 49 ∨ c = 50 ∨ c = 51 ∨ c = 52 ∨ c = 53 ∨ c = 54 ∨ c = 55 ∨ c = 56 ∨ c = 57 := by omega
  rcases this with rfl | rfl | rfl | rfl | rfl | rfl | rfl | rfl | rfl | rfl <;> decide +kernel
theorem len_str {x : Str} (h : x.length ≤ 100000) : gLen [.str x] = some (.int x.length) := by simp [gLen, h]
theorem all_true : ∀ {ds : List D}, (∀ d ∈ ds, d = .bool true) → gAll [.list ds] = some (.bool true) := by
  intro ds h
  obtain ⟨n, rfl⟩ : ∃ n, ds = List.replicate n (.bool true) := ⟨ds.length, List.eq_replicate_iff.mpr ⟨rfl, h⟩⟩
  clear h
  induction n with
  | zero => rfl
  | succ n ih =>
    have e : boolsOf (List.replicate n (PyData.bool true)) = some (List.replicate n true) := by
      clear ih
      induction n with
      | zero => rfl
      | succ n ih => rw [List.replicate_succ, boolsOf, ih]; rfl
    simp [gAll, List.replicate_succ, boolsOf, e]
theorem starts_head {x : Str} {c : Nat} (h : Txt.startswith x ⟨#[c]⟩ = true) : (tl x).head? = some c := by
  unfold Txt.startswith at h
  have h2 := (Bool.and_eq_true_iff.mp h).2
  unfold Builtin.Str.subAt at h2
  have h3 := congrArg Array.toList (eq_of_beq h2)
  rw [Array.toList_extract] at h3
  have h4 : (tl x).take 1 = [c] := by simpa [Str.length, List.extract] using h3
  cases q : tl x with
  | nil => rw [q] at h4; cases h4
  | cons a r => rw [q] at h4; simp at h4; simp [h4]
theorem nS_zero : nS 0 = ("0" : Str) := by decide +kernel
theorem nS_not {n : Nat} (h : n ≠ 0) : ((nS (n : Int)) == ("0" : Str)) = false ∧ Txt.startswith (nS (n : Int)) "0" = false := by
  have hh := numL_head h
  refine ⟨?_, ?_⟩
  · rw [beq_eq_false_iff_ne]
    intro e
    have := congrArg tl e
    rw [tl_nS] at this
    rw [this] at hh
    exact hh (by decide +kernel)
  · cases q : Txt.startswith (nS (n : Int)) "0" with
    | false => rfl
    | true =>
      exact absurd (starts_head (c := 48) q) (by rw [tl_nS]; exact hh)
theorem figures_spec {n : Nat} (h : n < 10 ^ 9) : Tells (g_is_figures [.str (nS (n : Int))]) true := by
  unfold g_is_figures d_is_figures
  have l1 := numL_pos n
  have l9 := numL_len (k := 8) h
  have le := len_nS (n := n)
  refine wf_of rfl ?_
  walk_at "go"
  refine wq_len (len_str (by omega)) ?_
  walk_at "go"
  refine wc_T (by simp; omega) ?_
  walk_at "go"
  refine wc_F (by simp; omega) ?_
  walk_at "go"
  refine ⟨by rw [signs_len]; show (nS (n : Int)).cps.size < _; have : (nS (n : Int)).cps.size = (nS (n : Int)).length := rfl; omega, ?_⟩
  walk_at "go"
  refine ⟨_, _, lc_pure (fun _ => .bool true) (fun x hx => ?_), ?_⟩
  · unfold signs at hx
    obtain ⟨c, hc, rfl⟩ := List.mem_map.mp hx
    have hc : c ∈ tl (nS (n : Int)) := hc
    rw [tl_nS] at hc
    walk_at "go"
    refine ⟨rfl, ?_⟩
    walk_at "go"
    exact ⟨by rw [sign_in (numL_mem hc)], _, by with_unfolding_all rfl, rfl⟩
  · walk_at "go"
    refine wq_all (all_true (fun d hd => by obtain ⟨_, _, rfl⟩ := List.mem_map.mp hd; rfl)) ?_
    walk_at "go"
    by_cases h0 : n = 0
    · subst h0
      refine wc_T (by show (nS 0 == _) = true; rw [nS_zero]; decide +kernel) ?_
      walk_at "go"
      exact ⟨rfl, rfl⟩
    · refine wc_F (nS_not h0).1 ?_
      walk_at "go"
      rw [(nS_not h0).2]
      exact ⟨rfl, rfl⟩
end
section
theorem sum_le {L : Nat} : ∀ {ys : List Str}, (∀ y ∈ ys, y.length ≤ L) → (ys.map (·.length)).sum ≤ ys.length * L
  | [], _ => by simp
  | y :: ys, h => by
    have h1 := h y List.mem_cons_self
    have h2 := sum_le (ys := ys) fun z hz => h z (List.mem_cons_of_mem _ hz)
    simp only [List.map_cons, List.sum_cons, List.length_cons, Nat.succ_mul]
    omega
theorem len_joinL (S : List Nat) : ∀ ps : List (List Nat), (joinL S ps).length ≤ (ps.map (·.length)).sum + ps.length * S.length
  | [] => by simp [joinL]
  | [p] => by simp [joinL]
  | p :: q :: r => by
    have := len_joinL S (q :: r)
    show (p ++ (S ++ joinL S (q :: r))).length ≤ _
    simp only [List.length_append, List.map_cons, List.sum_cons, List.length_cons, Nat.succ_mul] at this ⊢
    omega
theorem tl_joinT (y : Str) (ps : List Str) : tl (Txt.join y ps) = joinL (tl y) (ps.map tl) := by rw [join_eq, tl_join]
theorem len_join {L : Nat} {y : Str} {ys : List Str} (h : ∀ x ∈ ys, x.length ≤ L) : (Txt.join y ys).length ≤ ys.length * (L + y.length) := by
  rw [len_tl, tl_joinT]
  refine Nat.le_trans (len_joinL _ _) ?_
  have := sum_le h
  have e : ((ys.map tl).map (·.length)) = ys.map (·.length) := by
    rw [List.map_map]; exact List.map_congr_left fun x _ => (len_tl x).symm
  rw [e, List.length_map, ← len_tl, Nat.mul_add]
  omega
theorem mem_joinL {c : Nat} {S : List Nat} : ∀ {ps : List (List Nat)}, c ∈ joinL S ps → c ∈ S ∨ ∃ p ∈ ps, c ∈ p
  | [], h => by simp [joinL] at h
  | [p], h => .inr ⟨p, by simp, h⟩
  | p :: q :: r, h => by
    have h : c ∈ p ++ (S ++ joinL S (q :: r)) := h
    rcases List.mem_append.mp h with h | h
    · exact .inr ⟨p, by simp, h⟩
    rcases List.mem_append.mp h with h | h
    · exact .inl h
    rcases mem_joinL h with h | ⟨p', hp, h⟩
    · exact .inl h
    · exact .inr ⟨p', List.mem_cons_of_mem _ hp, h⟩
/-- a joined text, its first part ahead -/
theorem join_cons {y x : Str} {ys : List Str} (h : ys ≠ []) : Txt.join y (x :: ys) = x ++ y ++ Txt.join y ys := by
  refine ext_tl ?_
  rw [tl_append, tl_append, tl_joinT, tl_joinT]
  cases ys with
  | nil => exact absurd rfl h
  | cons z zs => rw [List.append_assoc]; rfl
theorem join_one {y x : Str} : Txt.join y [x] = x := by
  refine ext_tl ?_
  rw [tl_joinT]; rfl
theorem empty_app (a : Str) : Str.empty ++ a = a := ext_tl (by rw [tl_append]; rfl)
/-- a word: no spaces, no row ends -/
structure Wrd (x : Str) : Prop where
  sp : 32 ∉ tl x
  nl : 10 ∉ tl x
  len : x.length ≤ 30
  lo : ∀ c ∈ tl x, c < 200
theorem wrd_num {n : Nat} (h : n < 10 ^ 9) : Wrd (nS (n : Int)) := ⟨by rw [tl_nS]; exact numL_free (by omega), by rw [tl_nS]; exact numL_free (by omega), by rw [len_nS]; exact Nat.le_trans (DL.numL_len (k := 8) h) (by decide), fun c hc => by rw [tl_nS] at hc; have := numL_mem hc; omega⟩
theorem wrd_int {i : Int} (h0 : 0 ≤ i) (h : i < 10 ^ 9) : Wrd (nS i) := by
  obtain ⟨n, rfl⟩ := Int.eq_ofNat_of_zero_le h0
  exact wrd_num (by omega)
/-- a row: some words -/
structure Rwd (ws : List Str) : Prop where
  ne : ws ≠ []
  len : ws.length ≤ 13
  ok : ∀ w ∈ ws, Wrd w
def row (ws : List Str) : Str := Txt.join " " ws
def txt (rs : List (List Str)) : Str := Txt.join "\n" (rs.map row)
theorem tl_sp : tl (" " : Str) = [32] := by decide +kernel
theorem tl_nl : tl ("\n" : Str) = [10] := by decide +kernel
theorem Rwd.split {ws : List Str} (h : Rwd ws) : Txt.split (row ws) " " = ws := split_join tl_sp (by decide +kernel) h.ne fun p hp => (h.ok p hp).sp
theorem Rwd.free {ws : List Str} (h : Rwd ws) : 10 ∉ tl (row ws) := fun hm => by
  unfold row at hm
  rw [tl_joinT, tl_sp] at hm
  rcases mem_joinL hm with hm | ⟨p, hp, hm⟩
  · simp at hm
  · obtain ⟨w, hw, rfl⟩ := List.mem_map.mp hp
    exact (h.ok w hw).nl hm
theorem Rwd.lenR {ws : List Str} (h : Rwd ws) : (row ws).length ≤ 403 := by
  have := len_join (y := " ") fun w hw => (h.ok w hw).len
  have e : (" " : Str).length = 1 := by decide +kernel
  rw [e] at this
  have h2 := h.len
  unfold row
  have : ws.length * 31 ≤ 13 * 31 := Nat.mul_le_mul_right _ h2
  omega
theorem Rwd.low {ws : List Str} (h : Rwd ws) : ∀ c ∈ tl (row ws), c < 200 := fun c hm => by
  unfold row at hm
  rw [tl_joinT, tl_sp] at hm
  rcases mem_joinL hm with hm | ⟨p, hp, hm⟩
  · simp at hm; omega
  · obtain ⟨w, hw, rfl⟩ := List.mem_map.mp hp
    exact (h.ok w hw).lo c hm
theorem txt_low {rs : List (List Str)} (h : ∀ r ∈ rs, Rwd r) : ∀ c ∈ tl (txt rs), c < 200 := fun c hm => by
  unfold txt at hm
  rw [tl_joinT, tl_nl] at hm
  rcases mem_joinL hm with hm | ⟨p, hp, hm⟩
  · simp at hm; omega
  · obtain ⟨w, hw, rfl⟩ := List.mem_map.mp hp
    obtain ⟨r, hr, rfl⟩ := List.mem_map.mp hw
    exact (h r hr).low c hm
theorem strOk_low {x : Str} (h : ∀ c ∈ tl x, c < 200) : PyData.strOk x = true := by
  unfold PyData.strOk
  rw [Array.all_eq_true']
  intro c hc
  have := h c (Array.mem_def.mp hc)
  simp; omega
theorem split_txt {rs : List (List Str)} (hne : rs ≠ []) (h : ∀ r ∈ rs, Rwd r) : Txt.split (txt rs) "\n" = rs.map row := split_join tl_nl (by decide +kernel) (by simpa using hne) fun p hp => by
  obtain ⟨r, hr, rfl⟩ := List.mem_map.mp hp
  exact (h r hr).free
theorem txt_len {rs : List (List Str)} (hl : rs.length ≤ 30) (h : ∀ r ∈ rs, Rwd r) : (txt rs).length ≤ 12120 := by
  have := len_join (y := "\n") (ys := rs.map row) (L := 403) fun p hp => by
    obtain ⟨r, hr, rfl⟩ := List.mem_map.mp hp
    exact (h r hr).lenR
  have e : ("\n" : Str).length = 1 := by decide +kernel
  rw [e, List.length_map] at this
  unfold txt
  have : rs.length * 404 ≤ 30 * 404 := Nat.mul_le_mul_right _ hl
  omega
section
variable {Q : D → Prop} {ds : List D} {rs : List (List Str)} {ws : List Str}
theorem wx_row (e : ds = ws.map .str) (h : Rwd ws) (k : Q (.str (row ws))) : Wx (gJoin " " [.list ds]) Q := wx_joinL e (by
  have := sum_le fun w hw => (h.ok w hw).len
  have e : (" " : Str).length = 1 := by decide +kernel
  rw [e]
  have := h.len
  omega) k
theorem wx_txt (e : ds = (rs.map row).map .str) (hl : rs.length ≤ 30) (h : ∀ r ∈ rs, Rwd r) (k : Q (.str (txt rs))) : Wx (gJoin "\n" [.list ds]) Q := wx_joinL e (by
  have := sum_le (ys := rs.map row) (L := 403) fun p hp => by
    obtain ⟨r, hr, rfl⟩ := List.mem_map.mp hp
    exact (h r hr).lenR
  have e : ("\n" : Str).length = 1 := by decide +kernel
  rw [e]
  rw [List.length_map] at this ⊢
  omega) k
theorem wx_splitR (h : Rwd ws) (k : Q (.list (ws.map .str))) : Wx (gSplit (row ws) [.str " "]) Q := wx_split (by decide +kernel) (by have := h.lenR; omega) (by rw [h.split]; exact k)
theorem wx_splitT (hne : rs ≠ []) (hl : rs.length ≤ 30) (h : ∀ r ∈ rs, Rwd r) (k : Q (.list ((rs.map row).map .str))) : Wx (gSplit (txt rs) [.str "\n"]) Q := wx_split (by decide +kernel) (by have := txt_len hl h; omega) (by rw [split_txt hne h]; exact k)
end
theorem wx_addS {a b : Str} {Q : D → Prop} (h : a.length + b.length ≤ 100000) (k : Q (.str (a ++ b))) : Wx (gAdd (.str a) (.str b)) Q := ⟨_, by simp [gAdd, h], k⟩
theorem figs_spec : ∀ {ds : List D}, ds.length < 100 → (∀ d ∈ ds, ∃ n : Nat, n < 10 ^ 9 ∧ d = .str (nS (n : Int))) → Tells (g_are_figures [.list ds]) true := by
  intro ds hl h
  unfold g_are_figures d_are_figures
  refine wf_of rfl ?_
  walk_at "go"
  refine ⟨by omega, ?_⟩
  walk_at "go"
  refine ⟨_, _, lc_pure (fun _ => .bool true) (fun x hx => ?_), ?_⟩
  · obtain ⟨n, hn, rfl⟩ := h x hx
    walk_at "go"
    refine ⟨rfl, ?_⟩
    walk_at "go"
    refine (figures_spec hn).use ?_
    walk_at "go"
    exact ⟨rfl, _, by with_unfolding_all rfl, rfl⟩
  · walk_at "go"
    refine wq_all (all_true (fun d hd => by obtain ⟨_, _, rfl⟩ := List.mem_map.mp hd; rfl)) ?_
    walk_at "go"
    exact ⟨rfl, rfl⟩
theorem look_text (x : Str) : Wfx (g_look_at_text [.str x]) fun r os => r = .inl .none ∧ os = [] := by
  unfold g_look_at_text d_look_at_text
  refine wfx_of rfl ?_
  walk_at "go"
  exact ⟨rfl, rfl⟩
end
section
theorem wrd_word {x : Str} (h : ((tl x).all fun c => c != 32 && c != 10 && decide (c < 200)) = true) (hl : x.length ≤ 30) : Wrd x := ⟨fun hm => by simpa using List.all_eq_true.mp h _ hm, fun hm => by simpa using List.all_eq_true.mp h _ hm, hl, fun c hm => by
  have := List.all_eq_true.mp h _ hm
  simp only [Bool.and_eq_true, decide_eq_true_eq] at this
  exact this.2⟩
def tW (t : Tie) : List Str := ["tie", nS t.1, nS t.2.1, nS t.2.2.1, nS t.2.2.2]
def webW (m : Int) (ts : List Tie) : List (List Str) := ["houses", nS m] :: ts.map tW
variable {m : Int} {ts : List Tie}
theorem tie_w (W : Web m ts) {t : Tie} (h : t ∈ ts) : Rwd (tW t) := by
  have o := W.ok t h
  have := W.hi
  refine ⟨by simp [tW], by simp [tW], fun w hw => ?_⟩
  simp only [tW, List.mem_cons, List.not_mem_nil, or_false] at hw
  rcases hw with rfl | rfl | rfl | rfl | rfl
  · exact wrd_word (by decide +kernel) (by decide +kernel)
  all_goals exact wrd_int (by omega) (by omega)
theorem head_w (W : Web m ts) : Rwd ["houses", nS m] := by
  have := W.lo
  have := W.hi
  refine ⟨by simp, by simp, fun w hw => ?_⟩
  simp only [List.mem_cons, List.not_mem_nil, or_false] at hw
  rcases hw with rfl | rfl
  · exact wrd_word (by decide +kernel) (by decide +kernel)
  · exact wrd_int (by omega) (by omega)
theorem web_w (W : Web m ts) : ∀ r ∈ webW m ts, Rwd r := by
  intro r hr
  rcases List.mem_cons.mp hr with rfl | hr
  · exact head_w W
  · obtain ⟨t, ht, rfl⟩ := List.mem_map.mp hr
    exact tie_w W ht
theorem web_wl (W : Web m ts) : (webW m ts).length ≤ 30 := by
  have := W.len
  simp [webW]; omega
theorem houses_row : ("houses " : Str) ++ nS m = row ["houses", nS m] := by
  unfold row
  rw [join_cons (by simp), join_one]
  congr 1
theorem tie_row {ys : List Str} (h : ys ≠ []) : ("tie " : Str) ++ Txt.join " " ys = row ("tie" :: ys) := by
  unfold row
  rw [join_cons h]
  congr 1
def rowG : D → D
  | .tuple [.int a, .int b, .int p, .int q] => .str (row (tW (a, b, p, q)))
  | _ => .none
theorem rowG_tie (t : Tie) : rowG (tieD t) = .str (row (tW t)) := rfl
def strG : D → D
  | .int i => .str (nS i)
  | _ => .none
theorem shown_web_spec (W : Web m ts) : Wfx (g_shown_web [webD m ts]) fun r os => r = .inl (.str (txt (webW m ts))) ∧ os = [] := by
  have hl := W.len
  have h1 := W.lo
  have h8 := W.hi
  unfold g_shown_web d_shown_web webD
  refine wfx_of rfl ?_
  walk_at "go"
  refine wfx_use (look_web W) ?_
  rintro _ _ ⟨rfl, rfl⟩
  walk_at "go"
  refine ⟨by decide +kernel, ?_⟩
  walk_at "go"
  rw [empty_app]
  refine ⟨by omega, _, rfl, ?_⟩
  rw [houses_row]
  refine ⟨by have := (head_w W).lenR; omega, ?_⟩
  walk_at "go"
  refine ⟨by simp; omega, ?_⟩
  walk_at "go"
  refine ⟨_, _, lc_pure rowG (fun x hx => ?_), ?_⟩
  · obtain ⟨t, ht, rfl⟩ := List.mem_map.mp hx
    have o := W.ok t ht
    unfold tieD
    walk_at "go"
    refine ⟨rfl, ?_⟩
    walk_at "go"
    refine ⟨by simp, ?_⟩
    walk_at "go"
    refine ⟨_, _, lc_pure strG (fun x hx => ?_), ?_⟩
    · simp only [List.mem_cons, List.not_mem_nil, or_false] at hx
      rcases hx with rfl | rfl | rfl | rfl
      all_goals
        walk_at "go"
        refine ⟨rfl, ?_⟩
        walk_at "go"
        exact ⟨rfl, _, by with_unfolding_all rfl, rfl⟩
    · walk_at "go"
      refine wx_row (ws := tW t) rfl (tie_w W ht) ?_
      exact ⟨rfl, _, by with_unfolding_all rfl, rfl⟩
  · walk_at "go"
    refine wx_txt (rs := webW m ts) ?_ (web_wl W) (web_w W) ?_
    · simp [webW, List.map_map, Function.comp_def, rowG_tie]
    · walk_at "go"
      exact ⟨rfl, rfl⟩
theorem web_text_spec (W : Web m ts) : Wf (g__law_web_text [webD m ts]) fun d os => d = .str (txt (webW m ts)) ∧ os = [] := by
  have hl := W.len
  have h1 := W.lo
  have h8 := W.hi
  unfold g__law_web_text d__law_web_text webD
  refine wf_of rfl ?_
  walk_at "go"
  refine wx_addS (by
    have := (wrd_int (i := m) (by omega) (by omega)).len
    have : ("houses " : Str).length = 7 := by decide +kernel
    omega) ?_
  walk_at "go"
  refine for_ix (k := 0) (fun k e => ∃ s2 : Sv, MP s2 ∧ e = [.fz (.tuple [.int m, .list (ts.map tieD)]), .ow (.list (((webW m (ts.take k)).map row).map .str)), s2, .un]) ⟨.un, rfl, ?_⟩ ?_ ?_
  · simp [webW, ← houses_row]; rfl
  · rintro j x _ hx ⟨s2, m2, rfl⟩
    rw [List.getElem?_map] at hx
    obtain ⟨t, ht, rfl⟩ := Option.map_eq_some_iff.mp hx
    have hm : t ∈ ts := List.mem_of_getElem? ht
    have o := W.ok t hm
    have hj := (List.getElem?_eq_some_iff.mp ht).1
    refine we_eq (by simp [tgName, put, m2]; rfl) ?_
    unfold tieD
    walk_at "go"
    refine ⟨by simp, ?_⟩
    walk_at "go"
    refine ⟨_, _, lc_pure strG (fun x hx => ?_), ?_⟩
    · simp only [List.mem_cons, List.not_mem_nil, or_false] at hx
      rcases hx with rfl | rfl | rfl | rfl
      all_goals
        walk_at "go"
        refine ⟨rfl, ?_⟩
        walk_at "go"
        exact ⟨rfl, _, by with_unfolding_all rfl, rfl⟩
    · walk_at "go"
      refine wx_joinL (ys := (tW t).tail) rfl ?_ ?_
      · have := sum_le (ys := (tW t).tail) fun w hw => ((tie_w W hm).ok w (List.mem_of_mem_tail hw)).len
        have e : (" " : Str).length = 1 := by decide +kernel
        rw [e]
        simp [tW] at this ⊢
        omega
      walk_at "go"
      refine wx_addS (by
        have h1 := len_join (y := " ") (ys := (tW t).tail) fun w hw => ((tie_w W hm).ok w (List.mem_of_mem_tail hw)).len
        have e : (" " : Str).length = 1 := by decide +kernel
        have e2 : ("tie " : Str).length = 4 := by decide +kernel
        rw [e] at h1
        simp [tW] at h1 ⊢
        omega) ?_
      rw [show (tW t).tail = [nS t.1, nS t.2.1, nS t.2.2.1, nS t.2.2.2] from rfl, tie_row (by simp)]
      walk_at "go"
      refine we_appO (by with_unfolding_all rfl) (by simp [webW]; omega) ?_
      refine ⟨.fz (tieD t), rfl, ?_⟩
      rw [Nat.zero_add, List.take_succ, ht]
      simp [webW, tieD]
      rfl
  · rintro _ ⟨s2, m2, rfl⟩
    walk_at "go"
    refine wx_txt (rs := webW m ts) ?_ (web_wl W) (web_w W) ?_
    · simp [List.take_of_length_le]
    · walk_at "go"
      exact ⟨rfl, rfl⟩
end
section
def Rs.finXM (fl : List Bool) (s : Sh) (Q : D ⊕ Ex → List D → Prop) : Rs → Prop
  | .rm s' d e => s' = shO s d ∧ ∃ os, outsAt (slotsOf 0 fl) e = some os ∧ Q (.inl d) os
  | .xx x e => ∃ os, outsAt (slotsOf 0 fl) e = some os ∧ Q (.inr x) os
  | _ => False
theorem wfx_ofM {n : Nat} {fl : List Bool} {s : Sh} {body : Sf} {ds : List D} {Q : D ⊕ Ex → List D → Prop} (hl : ds.length = fl.length) (h : Ws body (env0 n fl ds) (Rs.finXM fl s Q)) : Wfx (gOfXM n fl s body ds) Q := by
  obtain ⟨r, h1, k⟩ := h
  cases r with
  | rm s' d e1 => obtain ⟨rfl, os, h2, k⟩ := k; exact ⟨_, _, by simp [gOfXM, hl, h1, h2], k⟩
  | xx x e1 => obtain ⟨os, h2, k⟩ := k; exact ⟨_, _, by simp [gOfXM, hl, h1, h2], k⟩
  | _ => exact k.elim
/-- a row, its words -/
def rowD (ws : List Str) : D := .list (ws.map .str)
/-- a text, as a list of its rows' words -/
def splG : D → D
  | .str x => .list ((Txt.split x " ").map .str)
  | _ => .none
theorem splG_row {ws : List Str} (h : Rwd ws) : splG (.str (row ws)) = rowD ws := by
  unfold splG
  dsimp only
  rw [h.split]; rfl
theorem int_back {i : Int} {Q : D → Prop} (h0 : 0 ≤ i) (h : i < 10 ^ 9) (k : Q (.int i)) : Wx (gIntS [.str (nS i)]) Q := by
  obtain ⟨n, rfl⟩ := Int.eq_ofNat_of_zero_le h0
  exact wx_intS (int_nS (by omega)) (len60 (by omega)) k
/-- what a text of digits tells -/
def intD : D → D
  | .str x => match PySem.intText? x with
    | some n => .int n
    | none => .none
  | _ => .none
theorem intD_nS {i : Int} (h0 : 0 ≤ i) (h : i < 10 ^ 9) : intD (.str (nS i)) = .int i := by
  obtain ⟨n, rfl⟩ := Int.eq_ofNat_of_zero_le h0
  unfold intD
  dsimp only
  rw [int_nS (by omega)]
theorem figs_spec' {ds : List D} (hl : ds.length < 100) (h : ∀ d ∈ ds, ∃ i : Int, 0 ≤ i ∧ i < 10 ^ 9 ∧ d = .str (nS i)) : Tells (g_are_figures [.list ds]) true := figs_spec hl fun d hd => by
  obtain ⟨i, h0, h9, rfl⟩ := h d hd
  obtain ⟨n, rfl⟩ := Int.eq_ofNat_of_zero_le h0
  exact ⟨n, by omega, rfl⟩
theorem fig_spec' {i : Int} (h0 : 0 ≤ i) (h : i < 10 ^ 9) : Tells (g_is_figures [.str (nS i)]) true := by
  obtain ⟨n, rfl⟩ := Int.eq_ofNat_of_zero_le h0
  exact figures_spec (by omega)
def tQ (t : Tie) : List D := [.str (nS t.1), .str (nS t.2.1), .str (nS t.2.2.1), .str (nS t.2.2.2)]
variable {m : Int} {ts : List Tie}
theorem read_web_spec (W : Web m ts) : Wfx (g_read_web [.str (txt (webW m ts))]) fun r os => r = .inl (webD m ts) ∧ os = [] := by
  have hl := W.len
  have h1 := W.lo
  have h8 := W.hi
  unfold g_read_web d_read_web
  refine wfx_ofM rfl ?_
  walk_at "go"
  refine wfx_use (look_text _) ?_
  rintro _ _ ⟨rfl, rfl⟩
  walk_at "go"
  refine wx_splitT (by simp [webW]) (web_wl W) (web_w W) ?_
  walk_at "go"
  refine ⟨by simp [webW]; omega, ?_⟩
  walk_at "go"
  refine ⟨_, _, lc_pure splG (fun x hx => ?_), ?_⟩
  · obtain ⟨y, hy, rfl⟩ := List.mem_map.mp hx
    obtain ⟨r, hr, rfl⟩ := List.mem_map.mp hy
    have w := web_w W r hr
    walk_at "go"
    refine ⟨rfl, ?_⟩
    walk_at "go"
    refine wx_splitR w ?_
    refine ⟨(splG_row w).symm, _, by with_unfolding_all rfl, rfl⟩
  have e1 : ((List.map row (webW m ts)).map PyData.str).map splG = (webW m ts).map rowD := by
    rw [List.map_map, List.map_map]
    exact List.map_congr_left fun r hr => splG_row (web_w W r hr)
  rw [e1]
  show We _ _
  have e2 : (webW m ts).map rowD = rowD ["houses", nS m] :: ts.map fun t => rowD (tW t) := by simp [webW, List.map_map, Function.comp_def]
  rw [e2]
  refine starL2 ?_ (by with_unfolding_all rfl) (by with_unfolding_all rfl) ?_
  · simp; omega
  walk_at "go"
  refine (fig_spec' (by omega) (by omega)).use ?_
  walk_at "go"
  refine for_step (k := 0) (fun k e => ∃ s1 s5 : Sv, MP s1 ∧ MP s5 ∧ e = [.fz (.str (txt (webW m ts))), s1, .fz (rowD ["houses", nS m]), .fz (.list (ts.map fun t => rowD (tW t))), .ow (.list ((ts.take k).map tieD)), s5, .un, .un, .un]) ⟨.un, .un, rfl, rfl, rfl⟩ ?_ ?_
  · rintro i x _ hx ⟨s1, s5, m1, m5, rfl⟩
    obtain ⟨y, hy, rfl⟩ := numbered_get hx
    rw [List.getElem?_map] at hy
    obtain ⟨t, ht, rfl⟩ := Option.map_eq_some_iff.mp hy
    have hm : t ∈ ts := List.mem_of_getElem? ht
    have o := W.ok t hm
    have hj := (List.getElem?_eq_some_iff.mp ht).1
    refine we_eq (ds := [.fz (.str (txt (webW m ts))), .fz (.int ((1 + i : Nat) : Int)), .fz (rowD ["houses", nS m]), .fz (.list (ts.map fun t => rowD (tW t))), .ow (.list ((ts.take (0 + i)).map tieD)), .fz (rowD (tW t)), .un, .un, .un]) ?_ ?_
    · simp [tgTup, tgsCons, tgsNil, tgName, put, m1, m5]
    walk_at "go"
    refine (figs_spec' (ds := tQ t) (by simp [tQ]) fun d hd => ?_).use ?_
    · simp only [tQ, List.mem_cons, List.not_mem_nil, or_false] at hd
      rcases hd with rfl | rfl | rfl | rfl
      all_goals exact ⟨_, by omega, by omega, rfl⟩
    walk_at "go"
    refine ⟨by show (tQ t).length < _; simp [tQ], ?_⟩
    walk_at "go"
    refine ⟨_, _, lc_pure intD (fun x hx => ?_), ?_⟩
    · obtain ⟨i', h0, h9, rfl⟩ : ∃ i : Int, 0 ≤ i ∧ i < 10 ^ 9 ∧ x = .str (nS i) := by
        have hx : x ∈ tQ t := hx
        simp only [tQ, List.mem_cons, List.not_mem_nil, or_false] at hx
        rcases hx with rfl | rfl | rfl | rfl
        all_goals exact ⟨_, by omega, by omega, rfl⟩
      walk_at "go"
      refine ⟨rfl, ?_⟩
      walk_at "go"
      refine int_back h0 h9 ?_
      exact ⟨(intD_nS h0 h9).symm, _, by with_unfolding_all rfl, rfl⟩
    have e3 : (tQ t).map intD = [.int t.1, .int t.2.1, .int t.2.2.1, .int t.2.2.2] := by
      simp only [tQ, List.map_cons, List.map_nil]
      rw [intD_nS (by omega) (by omega), intD_nS (by omega) (by omega), intD_nS (by omega) (by omega), intD_nS (by omega) (by omega)]
    walk_at "go"
    refine ⟨.fz (.int ((1 + i : Nat) : Int)), .fz (rowD (tW t)), rfl, rfl, ?_⟩
    refine Eq.trans (b := [.fz (.str (txt (webW m ts))), .fz (.int ((1 + i : Nat) : Int)), .fz (rowD ["houses", nS m]), .fz (.list (ts.map fun t => rowD (tW t))), .ow (.list ((ts.take (0 + i)).map tieD ++ [.tuple ((tQ t).map intD)])), .fz (rowD (tW t)), .un, .un, .un]) rfl ?_
    rw [e3, List.take_succ, Nat.zero_add, ht]
    simp [tieD]
  · rintro _ ⟨s1, s5, m1, m5, rfl⟩
    have e4 : (ts.take (0 + (DL.numbered 1 (ts.map fun t => rowD (tW t))).length)).map tieD = ts.map tieD := by
      rw [numbered_len, Nat.zero_add, List.length_map, List.take_length]
    rw [e4]
    walk_at "go"
    refine int_back (by omega) (by omega) ?_
    walk_at "go"
    refine wz_callB (by with_unfolding_all rfl) (by with_unfolding_all rfl) (wfx_use (look_web W) ?_)
    rintro _ _ ⟨rfl, rfl⟩
    refine ⟨rfl, rfl, ?_⟩
    walk_at "go"
    exact ⟨rfl, _, by with_unfolding_all rfl, rfl, rfl⟩
end
section
theorem lc_rel {vs : List Nat} {t : Tg} {p : Bf} {f : Df} (I : En → Prop) (R : D → D → Prop) : ∀ {ds : List D} {e : En}, I e → (∀ x ∈ ds, ∀ e, I e → We (t x e) fun e1 => Wb p e1 fun b e2 => Wc b (Wd f e2 fun y e3 => R x y ∧ We (wipeE vs e3) I) (We (wipeE vs e2) I)) →
    ∃ (ps : List (D × D)) (e' : En), lcGo vs t p f ds e = some (ps.map (·.2), e') ∧ I e' ∧ (ps.map (·.1)).Sublist ds ∧ ∀ z ∈ ps, R z.1 z.2
  | [], e, i, _ => ⟨[], e, rfl, i, .slnil, nofun⟩
  | x :: ds, e, i, h => by
    obtain ⟨e1, h1, b, e2, h2, k⟩ := h x List.mem_cons_self e i
    have hr : ∀ z ∈ ds, ∀ e, I e → We (t z e) fun e1 => Wb p e1 fun b e2 => Wc b (Wd f e2 fun y e3 => R z y ∧ We (wipeE vs e3) I) (We (wipeE vs e2) I) := fun z hz => h z (List.mem_cons_of_mem _ hz)
    cases b
    · obtain ⟨e4, h4, i4⟩ := k.2 rfl
      obtain ⟨ps, e', r, i', hl, ha⟩ := lc_rel I R i4 hr
      exact ⟨ps, e', by simp [lcGo, h1, h2, h4, r], i', hl.cons _, ha⟩
    · obtain ⟨y, e3, h3, ry, e4, h4, i4⟩ := k.1 rfl
      obtain ⟨ps, e', r, i', hl, ha⟩ := lc_rel I R i4 hr
      refine ⟨(x, y) :: ps, e', by simp [lcGo, h1, h2, h3, h4, r], i', hl.cons₂ _, fun z hz => ?_⟩
      rcases List.mem_cons.mp hz with rfl | hz
      · exact ry
      · exact ha z hz
abbrev Co := Int × Int
def coD (c : Co) : D := .tuple [.int c.1, .int c.2]
structure Sht (h n : Int) (en : Bool) (cs : List Co) (a : Int) : Prop where
  h0 : 0 ≤ h
  h8 : h < 8
  n1 : 1 ≤ n
  n9 : n < 10 ^ 9
  a0 : 0 ≤ a
  a40 : a ≤ 40
  len : cs.length ≤ 8
  ok : ∀ c ∈ cs, 0 ≤ c.1 ∧ c.1 < 8 ∧ c.1 ≠ h ∧ 1 ≤ c.2 ∧ c.2 ≤ 99
  up : cs.Pairwise fun x y => x.1 < y.1
  en0 : en = true → cs = []
def shtD (h n : Int) (en : Bool) (cs : List Co) (a : Int) : D := .tuple [.int h, .int n, .bool en, .tuple (cs.map coD), .int a]
def LtD (x y : D) : Prop := match x, y with
  | .int i, .int j => i < j
  | _, _ => False
theorem cos_of {P : Co → Prop} : ∀ {ps : List (D × D)}, (∀ z ∈ ps, ∃ c : Co, z.1 = .int c.1 ∧ z.2 = coD c ∧ P c) → ∃ cs : List Co, ps.map (·.2) = cs.map coD ∧ ps.map (·.1) = cs.map (fun c => .int c.1) ∧ ∀ c ∈ cs, P c
  | [], _ => ⟨[], rfl, rfl, nofun⟩
  | z :: ps, h => by
    obtain ⟨c, h1, h2, hp⟩ := h z List.mem_cons_self
    obtain ⟨cs, e1, e2, ha⟩ := cos_of fun w hw => h w (List.mem_cons_of_mem _ hw)
    refine ⟨c :: cs, by simp [h2, e1], by simp [h1, e2], fun w hw => ?_⟩
    rcases List.mem_cons.mp hw with rfl | hw
    · exact hp
    · exact ha w hw
theorem rng_up : (rng 0 8).Pairwise LtD := by
  show List.Pairwise LtD [.int (0 + (0 : Nat)), .int (0 + (1 : Nat)), .int (0 + (2 : Nat)), .int (0 + (3 : Nat)), .int (0 + (4 : Nat)), .int (0 + (5 : Nat)), .int (0 + (6 : Nat)), .int (0 + (7 : Nat))]
  simp [LtD]
theorem drawn_sheet_spec {P : D} (hP : IsPool P) : Wf (g__law_drawn_sheet [P]) fun d os => ∃ (h n : Int) (en : Bool) (cs : List Co) (a : Int) (P' : D), d = shtD h n en cs a ∧ os = [P'] ∧ Sht h n en cs a ∧ IsPool P' := by
  unfold g__law_drawn_sheet d__law_drawn_sheet
  refine wf_of rfl ?_
  walk_at "go"
  refine take_use hP (by decide) (by decide) fun h P1 h0 h8 hP1 => ?_
  walk_at "go"
  refine take_use hP1 (by decide) (by decide) fun q P2 _ _ hP2 => ?_
  walk_at "go"
  obtain ⟨ps, e', r, ⟨P3, hP3, rfl⟩, hs, ha⟩ := lc_rel (vs := [3]) (t := tgName 3) (p := (bAnd (bD (op2 gNe (.vr 3) (.vr 1))) (bAnd (bNot (bD (eVar 2))) (bD (op2 gEq (.ex (eCall [true, false] g__law_take [(.vr 0), (.ex (eC (.int 3)))])) (.ex (eC (.int 0)))))))) (f := (eTup [(.ex (eVar 3)), (.ex (eCall [true] g__law_price [(.vr 0)]))]))
    (ds := rng 0 (Int.toNat 8)) (e := [.pw P2, .fz (.int h), .fz (.bool (q == 0)), .un, .un]) (fun e => ∃ P3, IsPool P3 ∧ e = [.pw P3, .fz (.int h), .fz (.bool (q == 0)), .un, .un])
    (fun x y => ∃ c : Co, x = .int c.1 ∧ y = coD c ∧ 0 ≤ c.1 ∧ c.1 < 8 ∧ c.1 ≠ h ∧ 1 ≤ c.2 ∧ c.2 ≤ 99 ∧ (q == 0) = false) ⟨P2, hP2, rfl⟩ fun x hx e ⟨P3, hP3, ee⟩ => by
      subst ee
      obtain ⟨i, rfl, hi⟩ := rng_mem hx
      walk_at "go"
      refine wc_s (fun q1 => ?_) (fun q1 => ?_)
      · walk_at "go"
        refine wc_s (fun q2 => ?_) (fun q2 => ?_)
        · walk_at "go"
          refine take_use hP3 (by decide) (by decide) fun q3 P4 _ _ hP4 => ?_
          walk_at "go"
          refine wc_s (fun q4 => ?_) (fun q4 => ?_)
          · walk_at "go"
            refine wf_use (price_spec hP4) ?_
            rintro _ _ ⟨p, P5, rfl, rfl, p1, p99, hP5⟩
            walk_at "go"
            refine ⟨⟨((i : Int), p), rfl, rfl, ?_, ?_, ?_, p1, p99, by simpa using q2⟩, _, by with_unfolding_all rfl, P5, hP5, rfl⟩
            · show (0 : Int) ≤ i; omega
            · show (i : Int) < 8; have : i < 8 := hi; omega
            · simpa using q1
          · exact ⟨_, by with_unfolding_all rfl, P4, hP4, rfl⟩
        · walk_at "go"
          exact ⟨P3, hP3, rfl⟩
      · walk_at "go"
        exact ⟨P3, hP3, rfl⟩
  refine ⟨by decide, by decide, ?_⟩
  walk_at "go"
  refine ⟨_, _, r, ?_⟩
  obtain ⟨cs, e1, e2, ok⟩ := cos_of ha
  rw [e1]
  rw [e2] at hs
  walk_at "go"
  refine take_use hP3 (by decide) (by decide) fun q5 P4 q50 q52 hP4 => ?_
  walk_at "go"
  obtain ⟨w, hw, w1, w9⟩ : ∃ w : Int, [PyData.int 9, .int (10 ^ 9 - 1)][q5.toNat]? = some (.int w) ∧ 0 < w ∧ w < 10 ^ 9 := by
    have : q5 = 0 ∨ q5 = 1 := by omega
    rcases this with rfl | rfl
    · exact ⟨9, rfl, by decide, by decide⟩
    · exact ⟨10 ^ 9 - 1, rfl, by decide, by decide⟩
  refine wx_ixsL q50 hw ?_
  walk_at "go"
  refine take_use hP4 w1 (by omega) fun n P5 n0 nw hP5 => ?_
  walk_at "go"
  refine take_use hP5 (by decide) (by decide) fun a P6 a0 a41 hP6 => ?_
  walk_at "go"
  refine ⟨h, 1 + n, q == 0, cs, a, P6, rfl, rfl, ⟨h0, h8, by omega, by omega, a0, by omega, ?_, ?_, ?_, ?_⟩, hP6⟩
  · have := hs.length_le
    simpa [rng] using this
  · exact fun c hc => have o := ok c hc; ⟨o.1, o.2.1, o.2.2.1, o.2.2.2.1, o.2.2.2.2.1⟩
  · have := List.Pairwise.sublist hs rng_up
    rw [List.pairwise_map] at this
    exact this
  · intro z
    cases cs with
    | nil => rfl
    | cons c _ =>
      have := (ok c List.mem_cons_self).2.2.2.2.2
      rw [z] at this
      cases this
end
section
variable {h n a : Int} {en : Bool} {cs : List Co}
def CoOk (h : Int) (c : Co) : Prop := 0 ≤ c.1 ∧ c.1 < 8 ∧ c.1 ≠ h ∧ 1 ≤ c.2 ∧ c.2 ≤ 99
theorem told_tie_spec {c : Co} (o : CoOk h c) : Tells (g_is_told_tie [.int h, coD c]) true := by
  obtain ⟨o0, o8, on, o1, o9⟩ := o
  unfold g_is_told_tie d_is_told_tie coD
  refine wf_of rfl ?_
  walk_at "go"
  refine (e_is_house 8 (.int c.1) rfl).use ?_
  rw [show isIn 0 8 (.int c.1) = true by simp [isIn]; omega]
  walk_at "go"
  refine wc_T (by simpa using on) ?_
  walk_at "go"
  refine (e_is_price (.int c.2) rfl).use ?_
  rw [show isIn 1 100 (.int c.2) = true by simp [isIn]; omega]
  walk_at "go"
  exact ⟨rfl, rfl⟩
theorem pairs_up : ∀ {cs : List Co}, (cs.Pairwise fun x y => x.1 < y.1) → ∀ x ∈ pairs (cs.map coD) ((cs.map coD).drop 1), ∃ c d : Co, x = .tuple [coD c, coD d] ∧ c.1 < d.1
  | [], _, x, hx => by simp [pairs] at hx
  | [c], _, x, hx => by simp [pairs] at hx
  | c :: d :: cs, h, x, hx => by
    rw [List.pairwise_cons] at h
    have hx : x ∈ PyData.tuple [coD c, coD d] :: pairs ((d :: cs).map coD) (((d :: cs).map coD).drop 1) := hx
    rcases List.mem_cons.mp hx with rfl | hx
    · exact ⟨c, d, rfl, h.1 d List.mem_cons_self⟩
    · exact pairs_up h.2 x hx
theorem pairs_le (xs ys : List D) : (pairs xs ys).length ≤ xs.length := by
  induction xs generalizing ys with
  | nil => simp [pairs]
  | cons x xs ih => cases ys with
    | nil => simp [pairs]
    | cons y ys => simp only [pairs, List.length_cons]; have := ih ys; omega
theorem told_ties_spec (hl : cs.length ≤ 8) (o : ∀ c ∈ cs, CoOk h c) (up : cs.Pairwise fun x y => x.1 < y.1) : Tells (g_are_told_ties [.int h, .tuple (cs.map coD)]) true := by
  unfold g_are_told_ties d_are_told_ties
  refine wf_of rfl ?_
  walk_at "go"
  refine ⟨by simp; omega, ?_⟩
  walk_at "go"
  refine ⟨_, _, lc_pure (fun _ => .bool true) (fun x hx => ?_), ?_⟩
  · obtain ⟨c, hc, rfl⟩ := List.mem_map.mp hx
    walk_at "go"
    refine ⟨rfl, ?_⟩
    walk_at "go"
    refine (told_tie_spec (o c hc)).use ?_
    walk_at "go"
    exact ⟨rfl, _, by with_unfolding_all rfl, rfl⟩
  walk_at "go"
  refine wq_all (all_true (fun d hd => by obtain ⟨_, _, rfl⟩ := List.mem_map.mp hd; rfl)) ?_
  walk_at "go"
  refine ⟨by have := pairs_le (cs.map coD) ((cs.map coD).drop (Int.toNat 1)); rw [List.length_map] at this; omega, ?_⟩
  walk_at "go"
  refine ⟨_, _, lc_pure (fun _ => .bool true) (fun x hx => ?_), ?_⟩
  · obtain ⟨c, d, rfl, hcd⟩ := pairs_up up x hx
    unfold coD
    walk_at "go"
    refine ⟨rfl, ?_⟩
    walk_at "go"
    exact ⟨by simpa using hcd, _, by with_unfolding_all rfl, rfl⟩
  walk_at "go"
  refine wq_all (all_true (fun d hd => by obtain ⟨_, _, rfl⟩ := List.mem_map.mp hd; rfl)) ?_
  walk_at "go"
  exact ⟨rfl, rfl⟩
theorem is_sheet_spec (S : Sht h n en cs a) : Tells (g_is_sheet [shtD h n en cs a]) true := by
  have h0 := S.h0
  have h8 := S.h8
  have n1 := S.n1
  have a0 := S.a0
  have a40 := S.a40
  unfold g_is_sheet d_is_sheet shtD
  refine wf_of rfl ?_
  walk_at "go"
  refine (e_is_house 8 (.int h) rfl).use ?_
  rw [show isIn 0 8 (.int h) = true by simp [isIn]; omega]
  walk_at "go"
  refine (e_is_whole (.int n) rfl).use ?_
  walk_at "go"
  refine wc_F (by simp; omega) ?_
  walk_at "go"
  refine (told_ties_spec S.len S.ok S.up).use ?_
  walk_at "go"
  cases en with
  | true =>
    have := S.en0 rfl
    subst this
    walk_at "go"
    refine wq_ne (d := .bool false) (by with_unfolding_all rfl) ?_
    walk_at "go"
    refine (e_is_whole (.int a) rfl).use ?_
    walk_at "go"
    refine wc_T (by simp; omega) ?_
    walk_at "go"
    exact ⟨by simp; omega, rfl⟩
  | false =>
    walk_at "go"
    refine (e_is_whole (.int a) rfl).use ?_
    walk_at "go"
    refine wc_T (by simp; omega) ?_
    walk_at "go"
    exact ⟨by simp; omega, rfl⟩
end
section
variable {h n a : Int} {en : Bool} {cs : List Co}
def coW (c : Co) : Str := Txt.join ":" [nS c.1, nS c.2]
theorem tl_co : tl (":" : Str) = [58] := by decide +kernel
theorem coW_eq (c : Co) : coW c = nS c.1 ++ ":" ++ nS c.2 := by
  unfold coW
  rw [join_cons (by simp), join_one]
theorem nS_free {i : Int} {s : Nat} (h0 : 0 ≤ i) (h : s < 48 ∨ 57 < s) : s ∉ tl (nS i) := by
  obtain ⟨n, rfl⟩ := Int.eq_ofNat_of_zero_le h0
  rw [tl_nS]; exact numL_free h
theorem nS_len {i : Int} (h0 : 0 ≤ i) (h : i < 10 ^ 9) : (nS i).length ≤ 9 := by
  obtain ⟨n, rfl⟩ := Int.eq_ofNat_of_zero_le h0
  rw [len_nS]; exact DL.numL_len (k := 8) (by omega)
theorem co_split {c : Co} (o : CoOk h c) : Txt.split (coW c) ":" = [nS c.1, nS c.2] := split_join tl_co (by decide +kernel) (by simp) fun p hp => by
  obtain ⟨o0, o8, on, o1, o9⟩ := o
  simp only [List.mem_cons, List.not_mem_nil, or_false] at hp
  rcases hp with rfl | rfl <;> exact nS_free (by omega) (by omega)
theorem co_len {c : Co} (o : CoOk h c) : (coW c).length ≤ 19 := by
  obtain ⟨o0, o8, on, o1, o9⟩ := o
  rw [coW_eq, len_tl, tl_append, tl_append, List.length_append, List.length_append, ← len_tl, ← len_tl, ← len_tl]
  have l3 : (":" : Str).length = 1 := by decide +kernel
  have := nS_len (i := c.1) (by omega) (by omega)
  have := nS_len (i := c.2) (by omega) (by omega)
  omega
theorem co_wrd {c : Co} (o : CoOk h c) : Wrd (coW c) := by
  have hl := co_len o
  obtain ⟨o0, o8, on, o1, o9⟩ := o
  have f : ∀ s, (s < 48 ∨ 57 < s) → s ≠ 58 → s ∉ tl (coW c) := fun s hs h58 => by
    rw [coW_eq, tl_append, tl_append, tl_co]
    simp only [List.mem_append, List.mem_cons, List.not_mem_nil, or_false, not_or]
    exact ⟨⟨nS_free (by omega) hs, h58⟩, nS_free (by omega) hs⟩
  refine ⟨f _ (by omega) (by omega), f _ (by omega) (by omega), by omega, fun c' hc' => ?_⟩
  rw [coW_eq, tl_append, tl_append, tl_co] at hc'
  simp only [List.mem_append, List.mem_cons, List.not_mem_nil, or_false] at hc'
  rcases hc' with (hc' | hc') | hc'
  · exact (wrd_int (i := c.1) (by omega) (by omega)).lo c' hc'
  · omega
  · exact (wrd_int (i := c.2) (by omega) (by omega)).lo c' hc'
def enW (en : Bool) : Str := if en then "ended" else "sheet"
def shtW (h n : Int) (en : Bool) (cs : List Co) (a : Int) : List Str := enW en :: nS h :: nS n :: nS a :: cs.map coW
theorem sht_w (S : Sht h n en cs a) : Rwd (shtW h n en cs a) := by
  have h0 := S.h0
  have h8 := S.h8
  have n1 := S.n1
  have n9 := S.n9
  have a0 := S.a0
  have a40 := S.a40
  have hl := S.len
  refine ⟨by simp [shtW], by simp [shtW]; omega, fun w hw => ?_⟩
  simp only [shtW, List.mem_cons, List.mem_map] at hw
  rcases hw with rfl | rfl | rfl | rfl | ⟨c, hc, rfl⟩
  · cases en
    · exact wrd_word (x := "sheet") (by decide +kernel) (by decide +kernel)
    · exact wrd_word (x := "ended") (by decide +kernel) (by decide +kernel)
  · exact wrd_int (by omega) (by omega)
  · exact wrd_int (by omega) (by omega)
  · exact wrd_int (by omega) (by omega)
  · exact co_wrd (S.ok c hc)
def coG : D → D
  | .tuple [.int a, .int b] => .str (coW (a, b))
  | _ => .none
theorem coG_co (c : Co) : coG (coD c) = .str (coW c) := rfl
theorem sheet_text_spec (S : Sht h n en cs a) : Wf (g__law_sheet_text [shtD h n en cs a]) fun d os => d = .str (row (shtW h n en cs a)) ∧ os = [] := by
  have h0 := S.h0
  have h8 := S.h8
  have n1 := S.n1
  have n9 := S.n9
  have a0 := S.a0
  have a40 := S.a40
  have hl := S.len
  unfold g__law_sheet_text d__law_sheet_text shtD
  refine wf_of rfl ?_
  walk_at "go"
  refine wx_ixsL (d := .str (enW en)) (by cases en <;> decide) (by cases en <;> rfl) ?_
  walk_at "go"
  refine ⟨by simp; omega, ?_⟩
  walk_at "go"
  refine ⟨_, _, lc_pure coG (fun x hx => ?_), ?_⟩
  · obtain ⟨c, hc, rfl⟩ := List.mem_map.mp hx
    have o := S.ok c hc
    obtain ⟨o0, o8, on, o1, o9⟩ := o
    have l1 := nS_len (i := c.1) (by omega) (by omega)
    have l2 := nS_len (i := c.2) (by omega) (by omega)
    have l3 : (":" : Str).length = 1 := by decide +kernel
    unfold coD
    walk_at "go"
    refine ⟨rfl, ?_⟩
    walk_at "go"
    refine wx_addS (by omega) ?_
    walk_at "go"
    refine wx_addS (by rw [len_tl, tl_append, List.length_append, ← len_tl, ← len_tl]; omega) ?_
    exact ⟨by rw [← coW_eq]; rfl, _, by with_unfolding_all rfl, rfl⟩
  walk_at "go"
  refine wx_row (ws := shtW h n en cs a) ?_ (sht_w S) ?_
  · simp [shtW, List.map_map, Function.comp_def, coG_co]
  walk_at "go"
  exact ⟨rfl, rfl⟩
theorem shown_sheet_spec (S : Sht h n en cs a) : Wf (g_shown_sheet [shtD h n en cs a]) fun d os => d = .str (row (shtW h n en cs a)) ∧ os = [] := by
  have h0 := S.h0
  have h8 := S.h8
  have n1 := S.n1
  have n9 := S.n9
  have a0 := S.a0
  have a40 := S.a40
  have hl := S.len
  unfold g_shown_sheet d_shown_sheet shtD
  refine wf_of rfl ?_
  walk_at "go"
  cases en
  all_goals
    walk_at "go"
    refine ⟨by simp; omega, ?_⟩
    walk_at "go"
    refine ⟨_, _, lc_pure coG (fun x hx => ?_), ?_⟩
    · obtain ⟨c, hc, rfl⟩ := List.mem_map.mp hx
      have o := S.ok c hc
      obtain ⟨o0, o8, on, o1, o9⟩ := o
      have l1 := nS_len (i := c.1) (by omega) (by omega)
      have l2 := nS_len (i := c.2) (by omega) (by omega)
      have l3 : (":" : Str).length = 1 := by decide +kernel
      unfold coD
      walk_at "go"
      refine ⟨rfl, ?_⟩
      walk_at "go"
      refine ⟨by omega, _, rfl, ?_⟩
      rw [empty_app]
      refine ⟨by omega, ?_⟩
      walk_at "go"
      refine ⟨by rw [len_tl, tl_append, List.length_append, ← len_tl, ← len_tl]; omega, ?_⟩
      walk_at "go"
      refine ⟨by omega, _, rfl, by rw [len_tl, tl_append, tl_append, List.length_append, List.length_append, ← len_tl, ← len_tl, ← len_tl]; omega, ?_⟩
      walk_at "go"
      exact ⟨by rw [← coW_eq]; rfl, _, by with_unfolding_all rfl, rfl⟩
    walk_at "go"
    refine wx_row (ws := shtW h n _ cs a) ?_ (sht_w S) ?_
    · simp [shtW, List.map_map, Function.comp_def, coG_co, enW]
    walk_at "go"
    exact ⟨rfl, rfl⟩
end
section
variable {h n a : Int} {en : Bool} {cs : List Co}
theorem tie_of_spec {c : Co} (o : CoOk h c) : Wf (g_tie_of [.str (coW c)]) fun d os => d = coD c ∧ os = [] := by
  have hl := co_len o
  have hsp := co_split o
  obtain ⟨o0, o8, on, o1, o9⟩ := o
  unfold g_tie_of d_tie_of
  refine wf_of rfl ?_
  walk_at "go"
  refine wx_split (by decide +kernel) (by omega) ?_
  rw [hsp]
  walk_at "go"
  refine (figs_spec' (ds := [.str (nS c.1), .str (nS c.2)]) (by simp) fun d hd => ?_).use ?_
  · simp only [List.mem_cons, List.not_mem_nil, or_false] at hd
    rcases hd with rfl | rfl
    all_goals exact ⟨_, by omega, by omega, rfl⟩
  walk_at "go"
  refine int_back (by omega) (by omega) ?_
  walk_at "go"
  refine int_back (by omega) (by omega) ?_
  walk_at "go"
  exact ⟨rfl, rfl⟩
theorem nc_co {c : Co} (o : CoOk h c) : Nc 1 200 (coD c) := by
  obtain ⟨o0, o8, on, o1, o9⟩ := o
  refine nc_tuple (k := 0) (L := 61) (all_cons (nc_int (by omega)) (all_cons (nc_int (by omega)) all_nil)) (by simp)
theorem in_none {ds : List D} {k L : Nat} (h : Nc k L (.list ds)) (hk : k ≤ 60) (ht : ∀ d ∈ ds, PyData.eqv d .none = false) : gIn .none (.list ds) = some (.bool false) := by
  have h1 := h.nd
  have h2 := h.shaped hk
  have e : (ds.any fun z => PyData.eqv z .none) = false := by
    rw [List.any_eq_false]
    intro x hx
    rw [ht x hx]
    exact Bool.false_ne_true
  have h1' : noDcts ds = true := h1
  show (if (noDct .none && SeqAt.shaped .none && (noDcts ds && SeqAt.shaped (.list ds))) = true then some (PyData.bool (xor false (ds.any fun z => PyData.eqv z .none))) else none) = _
  rw [h1', h2, e]
  rfl
def tieG : D → D
  | .str x => match Txt.split x ":" with
    | [p, q] => .tuple [intD (.str p), intD (.str q)]
    | _ => .none
  | _ => .none
theorem tieG_co {c : Co} (o : CoOk h c) : tieG (.str (coW c)) = coD c := by
  unfold tieG
  dsimp only
  rw [co_split o]
  obtain ⟨o0, o8, on, o1, o9⟩ := o
  dsimp only
  rw [intD_nS (by omega) (by omega), intD_nS (by omega) (by omega)]
  rfl
theorem read_sheet_spec (S : Sht h n en cs a) : Wfx (g_read_sheet [.str (row (shtW h n en cs a))]) fun r os => r = .inl (shtD h n en cs a) ∧ os = [] := by
  have h0 := S.h0
  have h8 := S.h8
  have n1 := S.n1
  have n9 := S.n9
  have a0 := S.a0
  have a40 := S.a40
  have hl := S.len
  have w := sht_w S
  unfold g_read_sheet d_read_sheet
  refine wfx_of rfl ?_
  walk_at "go"
  refine wfx_use (look_text _) ?_
  rintro _ _ ⟨rfl, rfl⟩
  walk_at "go"
  have sp : Txt.split (row (shtW h n en cs a)) "\n" = [row (shtW h n en cs a)] := by
    have := split_txt (rs := [shtW h n en cs a]) (by simp) (by simpa using w)
    unfold txt at this
    rw [List.map_cons, List.map_nil, join_one] at this
    exact this
  refine wx_split (by decide +kernel) (by have := w.lenR; omega) ?_
  rw [sp]
  show We _ _
  refine starL2 (by simp) (by with_unfolding_all rfl) (by with_unfolding_all rfl) ?_
  walk_at "go"
  refine wx_splitR w ?_
  walk_at "go"
  refine ⟨by show (cs.map coW |>.map PyData.str).length < _; simp; omega, ?_⟩
  walk_at "go"
  refine ⟨_, _, lc_pure tieG (fun x hx => ?_), ?_⟩
  · have hx : x ∈ (cs.map coW).map PyData.str := hx
    obtain ⟨y, hy, rfl⟩ := List.mem_map.mp hx
    obtain ⟨c, hc, rfl⟩ := List.mem_map.mp hy
    walk_at "go"
    refine ⟨rfl, ?_⟩
    walk_at "go"
    refine wf_use (tie_of_spec (S.ok c hc)) ?_
    rintro _ _ ⟨rfl, rfl⟩
    walk_at "go"
    exact ⟨(tieG_co (S.ok c hc)).symm, _, by with_unfolding_all rfl, rfl⟩
  have e1 : ((cs.map coW).map PyData.str).map tieG = cs.map coD := by
    rw [List.map_map, List.map_map]
    exact List.map_congr_left fun c hc => tieG_co (S.ok c hc)
  have e1' : List.map tieG (List.drop (Int.toNat 4) (List.map PyData.str (shtW h n en cs a))) = cs.map coD := e1
  rw [e1']
  have nc : Nc 2 1626 (.list (cs.map coD)) := nc_list (k := 1) (L := 200) (fun d hd => by
    obtain ⟨c, hc, rfl⟩ := List.mem_map.mp hd
    exact nc_co (S.ok c hc)) (by simp; omega)
  have inN := in_none nc (by decide) (fun d hd => by
    obtain ⟨c, _, rfl⟩ := List.mem_map.mp hd
    rfl)
  have enN : en = true → gNe (.list (cs.map coD)) (.list []) = some (.bool false) := fun z => by rw [S.en0 z]; rfl
  have inF : gInF true (.str (enW en)) (.tuple [.str "sheet", .str "ended"]) = some (.bool false) := by cases en <;> rfl
  have isE : (enW en == ("ended" : Str)) = en := by cases en <;> decide +kernel
  walk_at "go"
  refine wx_ixsL (by decide) (d := .str (enW en)) rfl ?_
  walk_at "go"
  refine wx_eq inF ?_
  walk_at "go"
  refine (figs_spec' (ds := [.str (nS h), .str (nS n), .str (nS a)]) (by simp) fun d hd => ?_).use ?_
  · simp only [List.mem_cons, List.not_mem_nil, or_false] at hd
    rcases hd with rfl | rfl | rfl
    all_goals exact ⟨_, by omega, by omega, rfl⟩
  walk_at "go"
  refine wx_eq inN ?_
  walk_at "go"
  refine wx_ixsL (by decide) (d := .str (enW en)) rfl ?_
  walk_at "go"
  rw [isE]
  have ne0 : gNe (.list (List.map PyData.str [])) (.list []) = some (.bool false) := rfl
  refine wc_s (fun z => ?_) (fun z => ?_)
  · walk_at "go"
    refine wx_eq (enN z) ?_
    walk_at "go"
    refine wx_eq ne0 ?_
    walk_at "go"
    refine wx_ixsL (by decide) (d := .str (nS h)) rfl ?_
    walk_at "go"
    refine int_back (by omega) (by omega) ?_
    walk_at "go"
    refine wx_ixsL (by decide) (d := .str (nS n)) rfl ?_
    walk_at "go"
    refine int_back (by omega) (by omega) ?_
    walk_at "go"
    refine wx_ixsL (by decide) (d := .str (enW en)) rfl ?_
    walk_at "go"
    rw [isE]
    refine wx_ixsL (by decide) (d := .str (nS a)) rfl ?_
    walk_at "go"
    refine int_back (by omega) (by omega) ?_
    walk_at "go"
    refine (is_sheet_spec S).use ?_
    walk_at "go"
    exact ⟨rfl, rfl⟩
  · walk_at "go"
    refine wx_eq ne0 ?_
    walk_at "go"
    refine wx_ixsL (by decide) (d := .str (nS h)) rfl ?_
    walk_at "go"
    refine int_back (by omega) (by omega) ?_
    walk_at "go"
    refine wx_ixsL (by decide) (d := .str (nS n)) rfl ?_
    walk_at "go"
    refine int_back (by omega) (by omega) ?_
    walk_at "go"
    refine wx_ixsL (by decide) (d := .str (enW en)) rfl ?_
    walk_at "go"
    rw [isE]
    refine wx_ixsL (by decide) (d := .str (nS a)) rfl ?_
    walk_at "go"
    refine int_back (by omega) (by omega) ?_
    walk_at "go"
    refine (is_sheet_spec S).use ?_
    walk_at "go"
    exact ⟨rfl, rfl⟩
end
section
theorem lc_allI {vs : List Nat} {t : Tg} {p : Bf} {f : Df} (I : En → Prop) (R : D → Prop) : ∀ {ds : List D} {e : En}, I e → (∀ x ∈ ds, ∀ e, I e → We (t x e) fun e1 => Wb p e1 fun b e2 => b = true ∧ Wd f e2 fun y e3 => R y ∧ We (wipeE vs e3) I) →
    ∃ zs e', lcGo vs t p f ds e = some (zs, e') ∧ I e' ∧ zs.length = ds.length ∧ ∀ z ∈ zs, R z
  | [], e, i, _ => ⟨[], e, rfl, i, rfl, nofun⟩
  | x :: ds, e, i, h => by
    obtain ⟨e1, h1, b, e2, h2, rfl, y, e3, h3, ry, e4, h4, i4⟩ := h x List.mem_cons_self e i
    obtain ⟨zs, e', r, i', hl, ha⟩ := lc_allI I R i4 fun z hz => h z (List.mem_cons_of_mem _ hz)
    refine ⟨y :: zs, e', by simp [lcGo, h1, h2, h3, h4, r], i', by simp [hl], fun z hz => ?_⟩
    rcases List.mem_cons.mp hz with rfl | hz
    · exact ry
    · exact ha z hz
inductive Deed
  | beat
  | one (w : Str) (i : Int)
  | road (i j : Int) (b : Bool)
  | price (i j k : Int)
def sevens : List Str := ["carry", "lose", "double", "calm", "fall", "rise", "leave"]
def Fig (i : Int) : Prop := 0 ≤ i ∧ i < 10 ^ 9
def Deed.Ok : Deed → Prop
  | .beat => True
  | .one w i => w ∈ sevens ∧ Fig i
  | .road i j _ => Fig i ∧ Fig j
  | .price i j k => Fig i ∧ Fig j ∧ Fig k
def Deed.nm : Deed → Str
  | .beat => "beat"
  | .one w _ => w
  | .road _ _ _ => "road"
  | .price _ _ _ => "price"
def Deed.vals : Deed → List D
  | .beat => []
  | .one _ i => [.int i]
  | .road i j b => [.int i, .int j, .bool b]
  | .price i j k => [.int i, .int j, .int k]
def opW (b : Bool) : Str := if b then "open" else "shut"
def Deed.args : Deed → List Str
  | .beat => []
  | .one _ i => [nS i]
  | .road i j b => [nS i, nS j, opW b]
  | .price i j k => [nS i, nS j, nS k]
def Deed.D (x : Deed) : D := .tuple (.str x.nm :: x.vals)
def Deed.W (x : Deed) : List Str := x.nm :: x.args
theorem drawn_deed_spec {P : D} (hP : IsPool P) : Wf (g__law_drawn_deed [P]) fun d os => ∃ (x : Deed) (P' : D), d = x.D ∧ os = [P'] ∧ x.Ok ∧ IsPool P' := by
  unfold g__law_drawn_deed d__law_drawn_deed
  refine wf_of rfl ?_
  walk_at "go"
  refine ⟨by decide, by decide, ?_⟩
  walk_at "go"
  obtain ⟨zs, e', r, ⟨P1, hP1, rfl⟩, hl, ha⟩ := lc_allI (vs := [1]) (t := tgName 1) (p := bTrue) (f := (eCall [true, false] g__law_take [(.vr 0), (.ex (op2 gIxs (.ex (eLst [(.ex (eC (.int 9))), (.ex (op2 gPow (.ex (eC (.int 10))) (.ex (eC (.int 9)))))])) (.ex (eCall [true, false] g__law_take [(.vr 0), (.ex (eC (.int 2)))]))))]))
    (ds := rng 0 (Int.toNat 3)) (e := [.pw P, .un, .un, .un]) (fun e => ∃ P1, IsPool P1 ∧ e = [.pw P1, .un, .un, .un])
    (fun y => ∃ i : Int, y = .int i ∧ Fig i) ⟨P, hP, rfl⟩ fun x hx e ⟨P1, hP1, ee⟩ => by
      subst ee
      obtain ⟨i, rfl, hi⟩ := rng_mem hx
      walk_at "go"
      refine ⟨rfl, ?_⟩
      walk_at "go"
      refine take_use hP1 (by decide) (by decide) fun q P2 q0 q2 hP2 => ?_
      walk_at "go"
      obtain ⟨w, hw, w1, w9⟩ : ∃ w : Int, [PyData.int 9, .int (10 ^ 9)][q.toNat]? = some (.int w) ∧ 0 < w ∧ w ≤ 10 ^ 9 := by
        have : q = 0 ∨ q = 1 := by omega
        rcases this with rfl | rfl
        · exact ⟨9, rfl, by decide, by decide⟩
        · exact ⟨10 ^ 9, rfl, by decide, by decide⟩
      refine wx_ixsL q0 hw ?_
      walk_at "go"
      refine take_use hP2 w1 (by omega) fun n P3 n0 nw hP3 => ?_
      walk_at "go"
      exact ⟨⟨n, rfl, n0, by omega⟩, _, by with_unfolding_all rfl, P3, hP3, rfl⟩
  refine ⟨_, _, r, ?_⟩
  obtain ⟨z1, z2, z3, rfl⟩ : ∃ a b c, zs = [a, b, c] := by
    have hl : zs.length = 3 := hl
    match zs, hl with
    | [a, b, c], _ => exact ⟨a, b, c, rfl⟩
  obtain ⟨i, rfl, hi⟩ := ha z1 (by simp)
  obtain ⟨j, rfl, hj⟩ := ha z2 (by simp)
  obtain ⟨k, rfl, hk⟩ := ha z3 (by simp)
  walk_at "go"
  refine take_use hP1 (by decide) (by decide) fun q P2 q0 q10 hP2 => ?_
  walk_at "go"
  obtain ⟨w, hw, hc⟩ : ∃ w : Str, [PyData.str "carry", .str "lose", .str "double", .str "calm", .str "fall", .str "rise", .str "leave", .str "beat", .str "road", .str "price"][q.toNat]? = some (.str w) ∧ (w = "beat" ∨ w = "road" ∨ w = "price" ∨ w ∈ sevens) := by
    have : q = 0 ∨ q = 1 ∨ q = 2 ∨ q = 3 ∨ q = 4 ∨ q = 5 ∨ q = 6 ∨ q = 7 ∨ q = 8 ∨ q = 9 := by omega
    rcases this with rfl | rfl | rfl | rfl | rfl | rfl | rfl | rfl | rfl | rfl
    all_goals exact ⟨_, rfl, by simp [sevens]⟩
  refine wx_ixsL q0 hw ?_
  walk_at "go"
  rcases hc with rfl | rfl | rfl | hc
  · walk_at "go"
    exact ⟨.beat, P2, rfl, rfl, trivial, hP2⟩
  · walk_at "go"
    refine take_use hP2 (by decide) (by decide) fun b P3 b0 b2 hP3 => ?_
    walk_at "go"
    exact ⟨.road i j (b == 1), P3, rfl, rfl, ⟨hi, hj⟩, hP3⟩
  · walk_at "go"
    exact ⟨.price i j k, P2, rfl, rfl, ⟨hi, hj, hk⟩, hP2⟩
  · have hb : ∀ w ∈ sevens, (w == ("beat" : Str)) = false ∧ (w == ("road" : Str)) = false ∧ (w == ("price" : Str)) = false := by decide +kernel
    obtain ⟨b1, b2, b3⟩ := hb w hc
    refine wc_F b1 ?_
    walk_at "go"
    refine wc_F b2 ?_
    walk_at "go"
    refine wc_F b3 ?_
    walk_at "go"
    exact ⟨.one w i, P2, rfl, rfl, ⟨hc, hi⟩, hP2⟩
end
section
theorem wx_strSi {i : Int} {Q : D → Prop} (h : i.natAbs < 10 ^ 60) (k : Q (.str (nS i))) : Wx (gStrS [.int i]) Q := ⟨_, by unfold gStrS; dsimp only; rw [if_pos (log62 h)], k⟩
theorem wx_strSs {a : Str} {Q : D → Prop} (k : Q (.str a)) : Wx (gStrS [.str a]) Q := ⟨_, rfl, k⟩
/-- a part's text -/
def pT : D → Str
  | .str w => w
  | .int i => nS i
  | .bool b => opW b
  | _ => Str.empty
def Part (d : D) : Prop := (∃ w, d = .str w) ∨ (∃ i, d = .int i ∧ Fig i) ∨ ∃ b, d = .bool b
variable {x : Deed}
theorem deed_pt (x : Deed) : x.W = (.str x.nm :: x.vals).map pT := by cases x <;> rfl
theorem deed_part (h : x.Ok) : ∀ d ∈ PyData.str x.nm :: x.vals, Part d := by
  intro d hd
  rcases List.mem_cons.mp hd with rfl | hd
  · exact .inl ⟨_, rfl⟩
  cases x with
  | beat => simp [Deed.vals] at hd
  | one w i =>
    simp only [Deed.vals, List.mem_cons, List.not_mem_nil, or_false] at hd
    subst hd
    exact .inr (.inl ⟨_, rfl, h.2⟩)
  | road i j b =>
    simp only [Deed.vals, List.mem_cons, List.not_mem_nil, or_false] at hd
    rcases hd with rfl | rfl | rfl
    · exact .inr (.inl ⟨_, rfl, h.1⟩)
    · exact .inr (.inl ⟨_, rfl, h.2⟩)
    · exact .inr (.inr ⟨_, rfl⟩)
  | price i j k =>
    simp only [Deed.vals, List.mem_cons, List.not_mem_nil, or_false] at hd
    rcases hd with rfl | rfl | rfl
    · exact .inr (.inl ⟨_, rfl, h.1⟩)
    · exact .inr (.inl ⟨_, rfl, h.2.1⟩)
    · exact .inr (.inl ⟨_, rfl, h.2.2⟩)
theorem nm_wrd (h : x.Ok) : Wrd x.nm := by
  cases x with
  | beat => exact wrd_word (x := "beat") (by decide +kernel) (by decide +kernel)
  | road => exact wrd_word (x := "road") (by decide +kernel) (by decide +kernel)
  | price => exact wrd_word (x := "price") (by decide +kernel) (by decide +kernel)
  | one w i =>
    have a : ∀ w ∈ sevens, ((tl w).all fun c => c != 32 && c != 10 && decide (c < 200)) = true ∧ w.length ≤ 30 := by decide +kernel
    exact wrd_word (a w h.1).1 (a w h.1).2
theorem fig_wrd {i : Int} (h : Fig i) : Wrd (nS i) := wrd_int h.1 h.2
theorem op_wrd (b : Bool) : Wrd (opW b) := by cases b <;> exact wrd_word (by decide +kernel) (by decide +kernel)
theorem args_wrd (h : x.Ok) : ∀ w ∈ x.args, Wrd w := by
  intro w hw
  cases x with
  | beat => simp [Deed.args] at hw
  | one _ i =>
    simp only [Deed.args, List.mem_cons, List.not_mem_nil, or_false] at hw
    subst hw
    exact fig_wrd h.2
  | road i j b =>
    simp only [Deed.args, List.mem_cons, List.not_mem_nil, or_false] at hw
    rcases hw with rfl | rfl | rfl
    · exact fig_wrd h.1
    · exact fig_wrd h.2
    · exact op_wrd b
  | price i j k =>
    simp only [Deed.args, List.mem_cons, List.not_mem_nil, or_false] at hw
    rcases hw with rfl | rfl | rfl
    · exact fig_wrd h.1
    · exact fig_wrd h.2.1
    · exact fig_wrd h.2.2
theorem args_len (x : Deed) : x.args.length ≤ 3 := by cases x <;> simp [Deed.args]
theorem vals_len (x : Deed) : x.vals.length ≤ 3 := by cases x <;> simp [Deed.vals]
theorem deed_w (h : x.Ok) : Rwd x.W := by
  refine ⟨by simp [Deed.W], by have := args_len x; simp [Deed.W]; omega, fun w hw => ?_⟩
  rcases List.mem_cons.mp hw with rfl | hw
  · exact nm_wrd h
  · exact args_wrd h w hw
theorem deed_text_spec (h : x.Ok) : Wf (g__law_deed_text [x.D]) fun d os => d = .str (row x.W) ∧ os = [] := by
  have w := deed_w h
  have hv := vals_len x
  unfold g__law_deed_text d__law_deed_text Deed.D
  refine wf_of rfl ?_
  walk_at "go"
  refine for_ix (k := 0) (fun k e => ∃ s2 : Sv, MP s2 ∧ e = [.fz (.tuple (.str x.nm :: x.vals)), .ow (.list ((((PyData.str x.nm :: x.vals).take k).map pT).map .str)), s2]) ⟨.un, rfl, rfl⟩ ?_ ?_
  · rintro j d _ hd ⟨s2, m2, rfl⟩
    have hm := List.mem_of_getElem? hd
    have hp := deed_part h d hm
    have hj := (List.getElem?_eq_some_iff.mp hd).1
    have fin : ∀ (e : En), e = [.fz (.tuple (.str x.nm :: x.vals)), .ow (.list ((((PyData.str x.nm :: x.vals).take (0 + j)).map pT).map .str ++ [.str (pT d)])), .fz d] → ∃ s2 : Sv, MP s2 ∧ e = [.fz (.tuple (.str x.nm :: x.vals)), .ow (.list ((((PyData.str x.nm :: x.vals).take (0 + j + 1)).map pT).map .str)), s2] := fun e he => by
      refine ⟨.fz d, rfl, ?_⟩
      rw [he, Nat.zero_add, List.take_succ, hd]
      simp
    have hlen : ((((PyData.str x.nm :: x.vals).take (0 + j)).map pT).map PyData.str).length < 100000 := by
      simp only [List.length_map, List.length_take, List.length_cons]
      omega
    refine we_eq (ds := [.fz (.tuple (.str x.nm :: x.vals)), .ow (.list ((((PyData.str x.nm :: x.vals).take (0 + j)).map pT).map .str)), .fz d]) (by simp [tgName, put, m2]) ?_
    rcases hp with ⟨z, rfl⟩ | ⟨i, rfl, f0, f9⟩ | ⟨b, rfl⟩
    · walk_at "go"
      refine wx_strSs ?_
      walk_at "go"
      exact fin _ rfl
    · walk_at "go"
      refine wx_strSi (by omega) ?_
      walk_at "go"
      exact fin _ rfl
    · walk_at "go"
      refine wx_ixsL (d := .str (opW b)) (by cases b <;> decide) (by cases b <;> rfl) ?_
      walk_at "go"
      exact fin _ rfl
  · rintro _ ⟨s2, m2, rfl⟩
    walk_at "go"
    refine wx_row (ws := x.W) ?_ w ?_
    · rw [Nat.zero_add, List.take_length, deed_pt]
    · walk_at "go"
      exact ⟨rfl, rfl⟩
def sG : D → D
  | .int i => .str (nS i)
  | .str a => .str a
  | _ => .none
theorem shown_deed_spec (h : x.Ok) : Wf (g_shown_deed [x.D]) fun d os => d = .str (row x.W) ∧ os = [] := by
  have w := deed_w h
  unfold g_shown_deed d_shown_deed Deed.D
  refine wf_of rfl ?_
  walk_at "go"
  refine starO2 (by have := vals_len x; omega) (by with_unfolding_all rfl) (by with_unfolding_all rfl) ?_
  cases x with
  | beat =>
    walk_at "go"
    refine ⟨by decide, ?_⟩
    walk_at "go"
    refine ⟨_, _, lc_pure sG (fun d hd => ?_), ?_⟩
    · rcases (nofun : ∀ d ∈ ([] : List D), (∃ a, d = .str a) ∨ ∃ i, d = .int i ∧ Fig i) d hd with ⟨a, rfl⟩ | ⟨i, rfl, f0, f9⟩
      · walk_at "go"
        refine ⟨rfl, ?_⟩
        walk_at "go"
        refine wx_strSs ?_
        exact ⟨rfl, _, by with_unfolding_all rfl, rfl⟩
      · walk_at "go"
        refine ⟨rfl, ?_⟩
        walk_at "go"
        refine wx_strSi (by omega) ?_
        exact ⟨rfl, _, by with_unfolding_all rfl, rfl⟩
    walk_at "go"
    refine wx_row (ws := Deed.W _) rfl w ?_
    walk_at "go"
    exact ⟨rfl, rfl⟩
  | one v i =>
    have hb : ∀ w ∈ sevens, (w == ("road" : Str)) = false := by decide +kernel
    walk_at "go"
    refine wc_F (hb v h.1) ?_
    walk_at "go"
    refine ⟨by show 1 < 100000; decide, ?_⟩
    walk_at "go"
    refine ⟨_, _, lc_pure sG (fun d hd => ?_), ?_⟩
    · rcases (all_cons (.inr ⟨_, rfl, h.2⟩) all_nil : ∀ d ∈ ([.int i] : List D), (∃ a, d = .str a) ∨ ∃ i, d = .int i ∧ Fig i) d hd with ⟨a, rfl⟩ | ⟨i, rfl, f0, f9⟩
      · walk_at "go"
        refine ⟨rfl, ?_⟩
        walk_at "go"
        refine wx_strSs ?_
        exact ⟨rfl, _, by with_unfolding_all rfl, rfl⟩
      · walk_at "go"
        refine ⟨rfl, ?_⟩
        walk_at "go"
        refine wx_strSi (by omega) ?_
        exact ⟨rfl, _, by with_unfolding_all rfl, rfl⟩
    walk_at "go"
    refine wx_row (ws := Deed.W _) rfl w ?_
    walk_at "go"
    exact ⟨rfl, rfl⟩
  | road i j b =>
    walk_at "go"
    cases b
    · walk_at "go"
      refine ⟨by show 3 < 100000; decide, ?_⟩
      walk_at "go"
      refine ⟨_, _, lc_pure sG (fun d hd => ?_), ?_⟩
      · rcases (all_cons (.inr ⟨_, rfl, h.1⟩) (all_cons (.inr ⟨_, rfl, h.2⟩) (all_cons (.inl ⟨_, rfl⟩) all_nil)) : ∀ d ∈ ([.int i, .int j, .str "shut"] : List D), (∃ a, d = .str a) ∨ ∃ i, d = .int i ∧ Fig i) d hd with ⟨a, rfl⟩ | ⟨i, rfl, f0, f9⟩
        · walk_at "go"
          refine ⟨rfl, ?_⟩
          walk_at "go"
          refine wx_strSs ?_
          exact ⟨rfl, _, by with_unfolding_all rfl, rfl⟩
        · walk_at "go"
          refine ⟨rfl, ?_⟩
          walk_at "go"
          refine wx_strSi (by omega) ?_
          exact ⟨rfl, _, by with_unfolding_all rfl, rfl⟩
      walk_at "go"
      refine wx_row (ws := Deed.W _) rfl w ?_
      walk_at "go"
      exact ⟨rfl, rfl⟩
    · walk_at "go"
      refine ⟨by show 3 < 100000; decide, ?_⟩
      walk_at "go"
      refine ⟨_, _, lc_pure sG (fun d hd => ?_), ?_⟩
      · rcases (all_cons (.inr ⟨_, rfl, h.1⟩) (all_cons (.inr ⟨_, rfl, h.2⟩) (all_cons (.inl ⟨_, rfl⟩) all_nil)) : ∀ d ∈ ([.int i, .int j, .str "open"] : List D), (∃ a, d = .str a) ∨ ∃ i, d = .int i ∧ Fig i) d hd with ⟨a, rfl⟩ | ⟨i, rfl, f0, f9⟩
        · walk_at "go"
          refine ⟨rfl, ?_⟩
          walk_at "go"
          refine wx_strSs ?_
          exact ⟨rfl, _, by with_unfolding_all rfl, rfl⟩
        · walk_at "go"
          refine ⟨rfl, ?_⟩
          walk_at "go"
          refine wx_strSi (by omega) ?_
          exact ⟨rfl, _, by with_unfolding_all rfl, rfl⟩
      walk_at "go"
      refine wx_row (ws := Deed.W _) rfl w ?_
      walk_at "go"
      exact ⟨rfl, rfl⟩
  | price i j k =>
    walk_at "go"
    refine ⟨by show 3 < 100000; decide, ?_⟩
    walk_at "go"
    refine ⟨_, _, lc_pure sG (fun d hd => ?_), ?_⟩
    · rcases (all_cons (.inr ⟨_, rfl, h.1⟩) (all_cons (.inr ⟨_, rfl, h.2.1⟩) (all_cons (.inr ⟨_, rfl, h.2.2⟩) all_nil)) : ∀ d ∈ ([.int i, .int j, .int k] : List D), (∃ a, d = .str a) ∨ ∃ i, d = .int i ∧ Fig i) d hd with ⟨a, rfl⟩ | ⟨i, rfl, f0, f9⟩
      · walk_at "go"
        refine ⟨rfl, ?_⟩
        walk_at "go"
        refine wx_strSs ?_
        exact ⟨rfl, _, by with_unfolding_all rfl, rfl⟩
      · walk_at "go"
        refine ⟨rfl, ?_⟩
        walk_at "go"
        refine wx_strSi (by omega) ?_
        exact ⟨rfl, _, by with_unfolding_all rfl, rfl⟩
    walk_at "go"
    refine wx_row (ws := Deed.W _) rfl w ?_
    walk_at "go"
    exact ⟨rfl, rfl⟩
end
section
theorem given_n {i : Int} (h : Fig i) : Tells (g_is_given [.str ⟨#[110]⟩, .str (nS i)]) true := by
  unfold g_is_given d_is_given
  refine wf_of rfl ?_
  walk_at "go"
  refine (fig_spec' h.1 h.2).use ?_
  walk_at "go"
  exact ⟨rfl, rfl⟩
theorem given_o (b : Bool) : Tells (g_is_given [.str ⟨#[111]⟩, .str (opW b)]) true := by
  have inF : gInF false (.str (opW b)) (.tuple [.str "open", .str "shut"]) = some (.bool true) := by cases b <;> rfl
  unfold g_is_given d_is_given
  refine wf_of rfl ?_
  walk_at "go"
  refine wx_eq inF ?_
  walk_at "go"
  exact ⟨rfl, rfl⟩
def Giv (d : D) : Prop := (∃ b, d = .tuple [.str ⟨#[111]⟩, .str (opW b)]) ∨ ∃ i, d = .tuple [.str ⟨#[110]⟩, .str (nS i)] ∧ Fig i
def valG : D → D
  | .tuple [.str s, .str g] => if (s == ("o" : Str)) = true then .bool (g == ("open" : Str)) else intD (.str g)
  | _ => .none
theorem valG_o (b : Bool) : valG (.tuple [.str ⟨#[111]⟩, .str (opW b)]) = .bool b := by
  unfold valG
  dsimp only
  rw [if_pos (by decide +kernel)]
  cases b <;> congr 1
theorem valG_n {i : Int} (h : Fig i) : valG (.tuple [.str ⟨#[110]⟩, .str (nS i)]) = .int i := by
  unfold valG
  dsimp only
  rw [if_neg (by decide +kernel), intD_nS h.1 h.2]
theorem deed_of_gen {w f : Str} {gs : List Str} (hk : lkS kv_FORMS w = some f) (hf : f.length = gs.length) (hg3 : gs.length ≤ 3) (R : Rwd (w :: gs)) (hz : ∀ d ∈ pairs (signs f) (gs.map .str), Giv d) : Wf (g_deed_of [.str (row (w :: gs))]) fun d os => d = .tuple (.str w :: (pairs (signs f) (gs.map .str)).map valG) ∧ os = [] := by
  have hin : gInG kv_FORMS true (.str w) = some (.bool false) := by simp [gInG, hk]
  have hix : gIxG kv_FORMS (.str w) = some (.str f) := by simp [gIxG, hk]
  have hs : f.cps.size = (gs.map PyData.str).length := by rw [List.length_map]; exact hf
  have hp : (pairs (signs f) (gs.map PyData.str)).length < 100000 := by
    have := pairs_le (signs f) (gs.map PyData.str)
    rw [signs_len, hs, List.length_map] at this
    omega
  unfold g_deed_of d_deed_of
  refine wf_of rfl ?_
  walk_at "go"
  refine wx_splitR R ?_
  show We _ _
  refine starL2 (by rw [List.length_map]; omega) (by with_unfolding_all rfl) (by with_unfolding_all rfl) ?_
  walk_at "go"
  refine wx_eq hin ?_
  walk_at "go"
  refine wx_eq hix ?_
  walk_at "go"
  refine wq_len (len_str (by omega)) ?_
  walk_at "go"
  refine wc_F (by simp [hf]) ?_
  walk_at "go"
  refine wx_eq hix ?_
  walk_at "go"
  refine ⟨hs, hp, ?_⟩
  walk_at "go"
  refine ⟨_, _, lc_pure (fun _ => .bool true) (fun d hd => ?_), ?_⟩
  · rcases hz d hd with ⟨b, rfl⟩ | ⟨i, rfl, hi⟩
    · walk_at "go"
      refine ⟨rfl, ?_⟩
      walk_at "go"
      refine (given_o b).use ?_
      walk_at "go"
      exact ⟨rfl, _, by with_unfolding_all rfl, rfl⟩
    · walk_at "go"
      refine ⟨rfl, ?_⟩
      walk_at "go"
      refine (given_n hi).use ?_
      walk_at "go"
      exact ⟨rfl, _, by with_unfolding_all rfl, rfl⟩
  walk_at "go"
  refine wq_all (all_true (fun d hd => by obtain ⟨_, _, rfl⟩ := List.mem_map.mp hd; rfl)) ?_
  walk_at "go"
  refine wx_eq hix ?_
  walk_at "go"
  refine ⟨hs, hp, ?_⟩
  walk_at "go"
  refine ⟨_, _, lc_pure valG (fun d hd => ?_), ?_⟩
  · rcases hz d hd with ⟨b, rfl⟩ | ⟨i, rfl, hi⟩
    · walk_at "go"
      refine ⟨rfl, ?_⟩
      walk_at "go"
      exact ⟨by rw [valG_o]; cases b <;> rfl, _, by with_unfolding_all rfl, rfl⟩
    · walk_at "go"
      refine ⟨rfl, ?_⟩
      walk_at "go"
      refine int_back hi.1 hi.2 ?_
      exact ⟨(valG_n hi).symm, _, by with_unfolding_all rfl, rfl⟩
  walk_at "go"
  exact ⟨rfl, rfl⟩
/-- the forms of a deed's parts -/
def Deed.forms : Deed → Str
  | .beat => ""
  | .one _ _ => "n"
  | .road _ _ _ => "nno"
  | .price _ _ _ => "nnn"
theorem sg_n : signs ("n" : Str) = [.str ⟨#[110]⟩] := by
  have : ("n" : Str).cps.toList = [110] := by decide +kernel
  simp [signs, this]
theorem sg_nno : signs ("nno" : Str) = [.str ⟨#[110]⟩, .str ⟨#[110]⟩, .str ⟨#[111]⟩] := by
  have : ("nno" : Str).cps.toList = [110, 110, 111] := by decide +kernel
  simp [signs, this]
theorem sg_nnn : signs ("nnn" : Str) = [.str ⟨#[110]⟩, .str ⟨#[110]⟩, .str ⟨#[110]⟩] := by
  have : ("nnn" : Str).cps.toList = [110, 110, 110] := by decide +kernel
  simp [signs, this]
theorem sg_e : signs ("" : Str) = [] := by
  have : ("" : Str).cps.toList = [] := by decide +kernel
  simp [signs, this]
variable {x : Deed}
theorem forms_at (h : x.Ok) : lkS kv_FORMS x.nm = some x.forms := by
  cases x with
  | beat => rfl
  | road => rfl
  | price => rfl
  | one w i =>
    have a : ∀ w ∈ sevens, lkS kv_FORMS w = some ("n" : Str) := by decide +kernel
    exact a w h.1
theorem forms_len (x : Deed) : x.forms.length = x.args.length := by
  cases x with
  | beat => exact (by decide +kernel : ("" : Str).length = 0)
  | one => exact (by decide +kernel : ("n" : Str).length = 1)
  | road => exact (by decide +kernel : ("nno" : Str).length = 3)
  | price => exact (by decide +kernel : ("nnn" : Str).length = 3)
theorem forms_pairs (h : x.Ok) : (∀ d ∈ pairs (signs x.forms) (x.args.map .str), Giv d) ∧ (pairs (signs x.forms) (x.args.map .str)).map valG = x.vals := by
  cases x with
  | beat => rw [Deed.forms, sg_e]; exact ⟨nofun, rfl⟩
  | one w i =>
    rw [Deed.forms, sg_n]
    exact ⟨all_cons (.inr ⟨i, rfl, h.2⟩) all_nil, by simp [Deed.args, Deed.vals, pairs, valG_n h.2]⟩
  | road i j b =>
    rw [Deed.forms, sg_nno]
    exact ⟨all_cons (.inr ⟨i, rfl, h.1⟩) (all_cons (.inr ⟨j, rfl, h.2⟩) (all_cons (.inl ⟨b, rfl⟩) all_nil)), by simp [Deed.args, Deed.vals, pairs, valG_n h.1, valG_n h.2, valG_o]⟩
  | price i j k =>
    rw [Deed.forms, sg_nnn]
    exact ⟨all_cons (.inr ⟨i, rfl, h.1⟩) (all_cons (.inr ⟨j, rfl, h.2.1⟩) (all_cons (.inr ⟨k, rfl, h.2.2⟩) all_nil)), by simp [Deed.args, Deed.vals, pairs, valG_n h.1, valG_n h.2.1, valG_n h.2.2]⟩
theorem deed_of_spec (h : x.Ok) : Wf (g_deed_of [.str (row x.W)]) fun d os => d = x.D ∧ os = [] := by
  refine wf_use (deed_of_gen (forms_at h) (forms_len x) (args_len x) (deed_w h) (forms_pairs h).1) ?_
  rintro _ _ ⟨rfl, rfl⟩
  rw [(forms_pairs h).2]
  exact ⟨rfl, rfl⟩
def deedG : D → D
  | .tuple ds => .str (row (ds.map pT))
  | _ => .none
theorem deedG_D (x : Deed) : deedG x.D = .str (row x.W) := by
  rw [deed_pt]; rfl
def histD (xs : List Deed) : D := .list (xs.map Deed.D)
def histT (xs : List Deed) : Str := txt (xs.map Deed.W)
def HOk (xs : List Deed) : Prop := xs.length ≤ 12 ∧ ∀ x ∈ xs, x.Ok
variable {xs : List Deed}
theorem hist_rows (h : HOk xs) : ∀ r ∈ xs.map Deed.W, Rwd r := fun r hr => by
  obtain ⟨x, hx, rfl⟩ := List.mem_map.mp hr
  exact deed_w (h.2 x hx)
theorem hist_map (xs : List Deed) : (xs.map Deed.D).map deedG = ((xs.map Deed.W).map row).map .str := by
  rw [List.map_map, List.map_map, List.map_map]
  exact List.map_congr_left fun x _ => deedG_D x
theorem shown_history_spec (h : HOk xs) : Wf (g_shown_history [histD xs]) fun d os => d = .str (histT xs) ∧ os = [] := by
  have hl := h.1
  unfold g_shown_history d_shown_history histD
  refine wf_of rfl ?_
  walk_at "go"
  refine ⟨by rw [List.length_map]; omega, ?_⟩
  walk_at "go"
  refine ⟨_, _, lc_pure deedG (fun d hd => ?_), ?_⟩
  · obtain ⟨x, hx, rfl⟩ := List.mem_map.mp hd
    walk_at "go"
    refine ⟨rfl, ?_⟩
    walk_at "go"
    refine wf_use (shown_deed_spec (h.2 x hx)) ?_
    rintro _ _ ⟨rfl, rfl⟩
    walk_at "go"
    exact ⟨(deedG_D x).symm, _, by with_unfolding_all rfl, rfl⟩
  walk_at "go"
  refine wx_txt (rs := xs.map Deed.W) (hist_map xs) (by rw [List.length_map]; omega) (hist_rows h) ?_
  walk_at "go"
  exact ⟨rfl, rfl⟩
theorem nm_ne (h : x.Ok) : tl x.nm ≠ [] := by
  cases x with
  | beat => exact fun z => absurd (congrArg List.length z) (by decide +kernel)
  | road => exact fun z => absurd (congrArg List.length z) (by show ¬ (tl ("road" : Str)).length = 0; decide +kernel)
  | price => exact fun z => absurd (congrArg List.length z) (by show ¬ (tl ("price" : Str)).length = 0; decide +kernel)
  | one w i =>
    have a : ∀ w ∈ sevens, (tl w).length ≠ 0 := by decide +kernel
    exact fun z => a w h.1 (by rw [show tl w = [] from z]; rfl)
theorem joinL_ne {S p : List Nat} {ps : List (List Nat)} (h : p ≠ []) : joinL S (p :: ps) ≠ [] := by
  cases ps with
  | nil => exact h
  | cons q r =>
    intro z
    have z : p ++ (S ++ joinL S (q :: r)) = [] := z
    exact h (List.append_eq_nil_iff.mp z).1
theorem hist_ne {xs : List Deed} (h : ∀ y ∈ x :: xs, y.Ok) : (histT (x :: xs) == ("" : Str)) = false := by
  rw [beq_eq_false_iff_ne]
  intro z
  have z := congrArg tl z
  unfold histT txt at z
  rw [tl_joinT, List.map_cons, List.map_cons, List.map_cons] at z
  refine joinL_ne ?_ (z.trans (by decide +kernel))
  unfold row Deed.W
  rw [tl_joinT, List.map_cons]
  exact joinL_ne (nm_ne (h x List.mem_cons_self))
theorem read_history_spec (h : HOk xs) : Wfx (g_read_history [.str (histT xs)]) fun r os => r = .inl (histD xs) ∧ os = [] := by
  have hl := h.1
  unfold g_read_history d_read_history
  refine wfx_ofN rfl ?_
  walk_at "go"
  refine wfx_use (look_text _) ?_
  rintro _ _ ⟨rfl, rfl⟩
  walk_at "go"
  cases xs with
  | nil =>
    refine wc_T (by decide +kernel) ?_
    walk_at "go"
    exact ⟨rfl, rfl⟩
  | cons y ys =>
    refine wc_F (hist_ne h.2) ?_
    walk_at "go"
    refine wx_splitT (by simp) (by rw [List.length_map]; omega) (hist_rows h) ?_
    walk_at "go"
    refine for_step (k := 0) (fun k e => ∃ s2 s3 s4 : Sv, MP s2 ∧ MP s3 ∧ MP s4 ∧ e = [.fz (.str (histT (y :: ys))), .ow (.list (((y :: ys).take k).map Deed.D)), s2, s3, s4]) ⟨.un, .un, .un, rfl, rfl, rfl, rfl⟩ ?_ ?_
    · rintro i d _ hd ⟨s2, s3, s4, m2, m3, m4, rfl⟩
      obtain ⟨z, hz, rfl⟩ := numbered_get hd
      rw [List.getElem?_map] at hz
      obtain ⟨r, hr, rfl⟩ := Option.map_eq_some_iff.mp hz
      rw [List.getElem?_map] at hr
      obtain ⟨ws, hw, rfl⟩ := Option.map_eq_some_iff.mp hr
      rw [List.getElem?_map] at hw
      obtain ⟨x, hx, rfl⟩ := Option.map_eq_some_iff.mp hw
      have hm := List.mem_of_getElem? hx
      have hj := (List.getElem?_eq_some_iff.mp hx).1
      refine we_eq (ds := [.fz (.str (histT (y :: ys))), .ow (.list (((y :: ys).take (0 + i)).map Deed.D)), .fz (.int ((0 + i : Nat) : Int)), .fz (.str (row x.W)), s4]) ?_ ?_
      · simp [tgTup, tgsCons, tgsNil, tgName, put, m2, m3]
      walk_at "go"
      refine wf_use (deed_of_spec (h.2 x hm)) ?_
      rintro _ _ ⟨rfl, rfl⟩
      walk_at "go"
      refine ⟨m4, ?_⟩
      walk_at "go"
      refine ⟨.fz (.int ((0 + i : Nat) : Int)), .fz (.str (row x.W)), .fz x.D, rfl, rfl, rfl, ?_⟩
      rw [Nat.zero_add, List.take_succ, hx]
      simp
    · rintro _ ⟨s2, s3, s4, m2, m3, m4, rfl⟩
      walk_at "go"
      refine ⟨?_, rfl⟩
      rw [numbered_len, Nat.zero_add]
      simp [histD]
end
section
theorem refused_spec {d n : D} (hd : Th d) (h : dueR d = some n) : Wf (g__law_web_refused [d]) fun r os => r = .list [n] ∧ os = [] := by
  have sw : Wfx (g_shown_web [d]) fun r os => r = .inr ⟨"NoWeb", some ("number", n)⟩ ∧ os = [] := by
    unfold g_shown_web d_shown_web
    refine wfx_of rfl ?_
    walk_at "go"
    refine wfx_use (e_look d hd) ?_
    rintro _ _ ⟨rfl, rfl⟩
    rw [h]
    dsimp only [lookR]
    walk_at "go"
    exact ⟨rfl, rfl⟩
  unfold g__law_web_refused d__law_web_refused
  refine wf_ofN rfl ?_
  walk_at "go"
  refine wfx_use sw ?_
  rintro _ _ ⟨rfl, rfl⟩
  walk_at "go"
  exact ⟨rfl, rfl⟩
variable {m h n a : Int} {ts : List Tie} {en : Bool} {cs : List Co} {x : Deed} {xs : List Deed}
theorem nc_tie (W : Web m ts) {t : Tie} (ht : t ∈ ts) : Nc 1 300 (tieD t) := by
  have o := W.ok t ht
  have := W.hi
  exact nc_tuple (k := 0) (L := 61) (all_cons (nc_int (by omega)) (all_cons (nc_int (by omega)) (all_cons (nc_int (by omega)) (all_cons (nc_int (by omega)) all_nil)))) (by simp)
theorem nc_web (W : Web m ts) : Nc 3 20000 (webD m ts) := by
  have h1 := W.lo
  have h8 := W.hi
  have hl := W.len
  have b : Nc 2 7000 (.list (ts.map tieD)) := nc_list (k := 1) (L := 300) (fun d hd => by
    obtain ⟨t, ht, rfl⟩ := List.mem_map.mp hd
    exact nc_tie W ht) (by rw [List.length_map]; omega)
  exact nc_tuple (k := 2) (L := 7000) (all_cons ((nc_int (by omega)).mono (by decide) (by decide)) (all_cons b all_nil)) (by simp)
theorem nc_sht (S : Sht h n en cs a) : Nc 3 20000 (shtD h n en cs a) := by
  have h0 := S.h0
  have h8 := S.h8
  have n1 := S.n1
  have n9 := S.n9
  have a0 := S.a0
  have a40 := S.a40
  have hl := S.len
  have b : Nc 2 2000 (.tuple (cs.map coD)) := nc_tuple (k := 1) (L := 200) (fun d hd => by
    obtain ⟨c, hc, rfl⟩ := List.mem_map.mp hd
    exact nc_co (S.ok c hc)) (by rw [List.length_map]; omega)
  exact nc_tuple (k := 2) (L := 2000) (all_cons ((nc_int (by omega)).mono (by decide) (by decide)) (all_cons ((nc_int (by omega)).mono (by decide) (by decide)) (all_cons ((nc_bool _).mono (by decide) (by decide)) (all_cons b (all_cons ((nc_int (by omega)).mono (by decide) (by decide)) all_nil))))) (by simp)
theorem nc_nm (h : x.Ok) : Nc 0 61 (.str x.nm) := by
  cases x with
  | beat => exact nc_str (x := "beat") (by decide +kernel) (by decide +kernel)
  | road => exact nc_str (x := "road") (by decide +kernel) (by decide +kernel)
  | price => exact nc_str (x := "price") (by decide +kernel) (by decide +kernel)
  | one w i =>
    have a : ∀ w ∈ sevens, PyData.strOk w = true ∧ (PyData.shown (.str w)).length ≤ 61 := by decide +kernel
    exact nc_str (a w h.1).1 (a w h.1).2
theorem nc_deed (h : x.Ok) : Nc 1 300 x.D := by
  have hv := vals_len x
  refine nc_tuple (k := 0) (L := 61) (all_cons (nc_nm h) fun d hd => ?_) (by simp; omega)
  rcases deed_part h d (List.mem_cons_of_mem _ hd) with ⟨w, rfl⟩ | ⟨i, rfl, f0, f9⟩ | ⟨b, rfl⟩
  · cases x <;> simp [Deed.vals] at hd
  · exact nc_int (by omega)
  · exact (nc_bool b).mono (by decide) (by decide)
theorem nc_hist (h : HOk xs) : Nc 3 20000 (histD xs) := by
  have hl := h.1
  exact (nc_list (k := 1) (L := 300) (M := 4000) (fun d hd => by
    obtain ⟨x, hx, rfl⟩ := List.mem_map.mp hd
    exact nc_deed (h.2 x hx)) (by rw [List.length_map]; omega)).mono (by decide) (by decide)
def keptD (m : Int) (ts : List Tie) (h n : Int) (en : Bool) (cs : List Co) (a : Int) (xs : List Deed) : D := .list [webD m ts, shtD h n en cs a, histD xs]
theorem nc_kept (W : Web m ts) (S : Sht h n en cs a) (H : HOk xs) : Nc 4 100000 (keptD m ts h n en cs a xs) :=
  nc_list (k := 3) (L := 20000) (all_cons (nc_web W) (all_cons (nc_sht S) (all_cons (nc_hist H) all_nil))) (by simp)
theorem ne_strs {x y z : Str} (hx : PyData.strOk x = true) (hy : PyData.strOk y = true) (hz : PyData.strOk z = true) : gNe (.list [.str x, .str y, .str z]) (.list [.str x, .str y, .str z]) = some (.bool false) := by
  have e := TT.eqv_refl (.list [.str x, .str y, .str z]) rfl
  have s : SeqAt.shaped (PyData.list [.str x, .str y, .str z]) = true := by
    simp [SeqAt.shaped, PyData.canLay0, PyData.canLayAll0, hx, hy, hz, PyData.depth, PyData.depthAll]
  have nd : noDct (PyData.list [.str x, .str y, .str z]) = true := rfl
  simp [gNe, gEqq, e, s, nd]
/-- things that are no webs, and what they are refused with -/
def oddD : List (D × D) := [(.tuple [.int 0, .list []], .none), (.tuple [.int 2, .list [.tuple [.int 0, .int 1, .int 1, .int 1], .tuple [.int 0, .int 1, .int 2, .int 2]]], .int 1), (.tuple [.int 2, .list [.tuple [.int 0, .int 0, .int 1, .int 1]]], .int 0), (.none, .none), (.tuple [.int 2, .tuple []], .none)]
theorem pt_int4 (a b c d : Int) : Pt (.tuple [.int a, .int b, .int c, .int d]) := tie_pt (a, b, c, d)
theorem odd_th : ∀ p ∈ oddD, Th p.1 ∧ dueR p.1 = some p.2 ∧ (p.2 = .none ∨ ∃ i : Int, p.2 = .int i ∧ i.natAbs < 10) := by
  intro p hp
  have e : ∀ {m : Int} {us : List D}, (∀ x ∈ us, Pt x) → Th (.tuple [.int m, .list us]) := fun {m us} h => ⟨rfl, fun m' ts' e => by
    cases e
    exact ⟨rfl, rfl, fun xs e x hx => by cases e; exact h x hx⟩⟩
  simp only [oddD, List.mem_cons, List.not_mem_nil, or_false] at hp
  rcases hp with rfl | rfl | rfl | rfl | rfl
  · exact ⟨e nofun, rfl, .inl rfl⟩
  · refine ⟨e fun x hx => ?_, by with_unfolding_all rfl, .inr ⟨1, rfl, by decide⟩⟩
    simp only [List.mem_cons, List.not_mem_nil, or_false] at hx
    rcases hx with rfl | rfl <;> exact pt_int4 _ _ _ _
  · refine ⟨e fun x hx => ?_, by with_unfolding_all rfl, .inr ⟨0, rfl, by decide⟩⟩
    simp only [List.mem_cons, List.not_mem_nil, or_false] at hx
    subst hx
    exact pt_int4 _ _ _ _
  · exact ⟨⟨rfl, fun m ts e => by cases e⟩, rfl, .inl rfl⟩
  · exact ⟨⟨rfl, fun m ts e => by cases e; exact ⟨rfl, rfl, fun xs e => by cases e⟩⟩, rfl, .inl rfl⟩
theorem ne_one {n : D} (h : n = .none ∨ ∃ i : Int, n = .int i ∧ i.natAbs < 10) : gNe (.list [n]) (.list [n]) = some (.bool false) := by
  rcases h with rfl | ⟨i, rfl, hi⟩
  · exact (nc_list (k := 0) (L := 61) (M := 100) (all_cons (nc_none.mono (by decide) (by decide)) all_nil) (by simp)).neS
  · exact (nc_list (k := 0) (L := 61) (M := 100) (all_cons (nc_int (by omega)) all_nil) (by simp)).neS
end
section
theorem e_pool : g__law_pool = gPool := rfl
theorem e_web : g__law_web = gWeb := rfl
def scrD (ns : List Int) : D := .dict [(.none, .list (ns.map .int))]
def Top (ns : List Int) (e : En) : Prop := ∃ s1 s2 s3 s4 s5 s6 s7 s9 s10, e = [.fz (scrD ns), s1, s2, s3, s4, s5, s6, s7, .un, s9, s10, .un, .un, .un] ∧ MP s1 ∧ MP s2 ∧ MP s3 ∧ MP s4 ∧ MP s5 ∧ MP s6 ∧ MP s7 ∧ MP s9 ∧ MP s10 ∧ canWipe (some s5) = true
def toldS : Sh := .lp (.cn "" (.tp (.cn "" .fz (.cn "" (.ls .fz) .nl))) (.cn "" .fz (.cn "" (.ls .fz) .nl)))
def oddA : List D := [.tuple [.tuple [.int 0, .list []], .none], .tuple [.tuple [.int 2, .list [.tuple [.int 0, .int 1, .int 1, .int 1], .tuple [.int 0, .int 1, .int 2, .int 2]]], .int 1], .tuple [.tuple [.int 2, .list [.tuple [.int 0, .int 0, .int 1, .int 1]]], .int 0], .tuple [.none, .none]]
theorem odd_eq : ([.tuple [.tuple [.int 0, .list []], .none], .tuple [.tuple [.int 2, .list [.tuple [.int 0, .int 1, .int 1, .int 1], .tuple [.int 0, .int 1, .int 2, .int 2]]], .int 1], .tuple [.tuple [.int 2, .list [.tuple [.int 0, .int 0, .int 1, .int 1]]], .int 0], .tuple [.none, .none]] ++ [.tuple [.tuple [.int 2, .tuple []], .none]] : List D) = oddD.map fun p => .tuple [p.1, p.2] := rfl
theorem odd_lc (a0 a1 a2 a3 a4 a5 a6 a7 a8 a9 a10 a11 : Sv) : lcGo [12, 13] (tgTup (tgsCons (tgName 12) (tgsCons (tgName 13) tgsNil))) (bD (op2 gNe (.ex (eCall [false] g__law_web_refused [(.ex (eVar 12))])) (.ex (eLst [(.ex (eVar 13))])))) (eVar 12) (oddD.map fun p => .tuple [p.1, p.2]) [a0, a1, a2, a3, a4, a5, a6, a7, a8, a9, a10, a11, .un, .un] = some ([], [a0, a1, a2, a3, a4, a5, a6, a7, a8, a9, a10, a11, .un, .un]) := by
  have e := lc_filter (vs := [12, 13]) (t := (tgTup (tgsCons (tgName 12) (tgsCons (tgName 13) tgsNil)))) (p := (bD (op2 gNe (.ex (eCall [false] g__law_web_refused [(.ex (eVar 12))])) (.ex (eLst [(.ex (eVar 13))]))))) (f := eVar 12) (e0 := [a0, a1, a2, a3, a4, a5, a6, a7, a8, a9, a10, a11, .un, .un]) (fun _ => false) (fun d => d) (ds := oddD.map fun p => .tuple [p.1, p.2]) (fun d hd => by
    obtain ⟨p, hp, rfl⟩ := List.mem_map.mp hd
    obtain ⟨p1, p2⟩ := p
    obtain ⟨h1, h2, h3⟩ := odd_th _ hp
    dsimp only at h1 h2 h3 ⊢
    refine we_eq (ds := [a0, a1, a2, a3, a4, a5, a6, a7, a8, a9, a10, a11, .fz p1, .fz p2]) rfl ?_
    walk_at "go"
    refine wf_use (refused_spec h1 h2) ?_
    rintro _ _ ⟨rfl, rfl⟩
    walk_at "go"
    refine wq_ne (ne_one h3) ?_
    exact ⟨_, rfl, rfl, wc_F rfl ⟨_, rfl, rfl⟩⟩)
  rw [e]
  simp
theorem deeds_of : ∀ {zs : List D}, (∀ z ∈ zs, ∃ x : Deed, z = x.D ∧ x.Ok) → ∃ xs : List Deed, zs = xs.map Deed.D ∧ ∀ x ∈ xs, x.Ok
  | [], _ => ⟨[], rfl, nofun⟩
  | z :: zs, h => by
    obtain ⟨x, rfl, hx⟩ := h z List.mem_cons_self
    obtain ⟨xs, rfl, ha⟩ := deeds_of fun w hw => h w (List.mem_cons_of_mem _ hw)
    refine ⟨x :: xs, rfl, fun y hy => ?_⟩
    rcases List.mem_cons.mp hy with rfl | hy
    · exact hx
    · exact ha y hy
theorem law_true (ns : List Int) (hl : ns.length ≤ 63) : g_law [.dict [(.none, .list (ns.map .int))]] = some (.bool true, []) := by
  have main : Wf (g_law [.dict [(.none, .list (ns.map .int))]]) fun d os => d = .bool true ∧ os = [] := by
    unfold g_law d_law
    refine wf_of rfl ?_
    walk_at "go"
    generalize hN : (if (if (16 : Int) < ↑(List.map PyData.int ns).length then (16 : Int) else ↑(List.map PyData.int ns).length) > 1 then (if (16 : Int) < ↑(List.map PyData.int ns).length then (16 : Int) else ↑(List.map PyData.int ns).length) else 1) = N
    have hN2 : 0 ≤ N ∧ N ≤ 16 := by
      rw [← hN]
      split
      · split <;> omega
      · omega
    refine ⟨by omega, ?_⟩
    refine for_use (Top ns) ⟨.un, .un, .un, .un, .un, .un, .un, .un, .un, rfl, rfl, rfl, rfl, rfl, rfl, rfl, rfl, rfl, rfl, rfl⟩ ?_ ?_
    · rintro x hx _ ⟨s1, s2, s3, s4, s5, s6, s7, s9, s10, rfl, n1, n2, n3, n4, n5, n6, n7, n9, n10, c5⟩
      obtain ⟨k, rfl, hk⟩ := rng_mem hx
      refine put_one (s := s1) n1 ?_
      walk_at "go"
      rw [e_pool]
      refine wf_use (pool_spec ns k (by omega)) ?_
      rintro P _ ⟨rfl, hP⟩
      walk_at "go"
      refine and_put n2 ?_
      walk_at "go"
      rw [e_web]
      refine wf_use (web_spec hP (k := 8) (by decide) (by decide)) ?_
      rintro _ _ ⟨m, ts, P1, rfl, rfl, W, _, hP1⟩
      have wt := web_text_spec W
      have sw := shown_web_spec W
      have rw' := read_web_spec W
      have ncw := fun {h n en cs a xs} (S : Sht h n en cs a) (H : HOk xs) => (nc_kept W S H).repr
      have okw := strOk_low (txt_low (web_w W))
      generalize txt (webW m ts) = tw at wt sw rw' okw
      walk_at "go"
      refine and_put n3 ?_
      walk_at "go"
      refine wf_use (drawn_sheet_spec hP1) ?_
      rintro _ _ ⟨h, n, en, cs, a, P2, rfl, rfl, S, hP2⟩
      have st := sheet_text_spec S
      have ss := shown_sheet_spec S
      have rs := read_sheet_spec S
      have oks := strOk_low (sht_w S).low
      have ncs := fun {xs} (H : HOk xs) => ncw S H
      generalize row (shtW h n en cs a) = tsh at st ss rs oks
      walk_at "go"
      refine and_put n4 ?_
      walk_at "go"
      refine take_use hP2 (by decide) (by decide) fun q P3 q0 q13 hP3 => ?_
      walk_at "go"
      obtain ⟨zs, e', r, ⟨P4, hP4, rfl⟩, hzl, ha⟩ := lc_allI (vs := [5]) (t := tgName 5) (p := bTrue) (f := eCall [true] g__law_drawn_deed [Opd.vr 2])
        (ds := rng 0 q.toNat) (e := [.fz (scrD ns), .fz (.int k), .ow P3, .fz (webD m ts), .fz (shtD h n en cs a), .un, s6, s7, .un, s9, s10, .un, .un, .un]) (fun e => ∃ P4, IsPool P4 ∧ e = [.fz (scrD ns), .fz (.int k), .ow P4, .fz (webD m ts), .fz (shtD h n en cs a), .un, s6, s7, .un, s9, s10, .un, .un, .un])
        (fun y => ∃ x : Deed, y = x.D ∧ x.Ok) ⟨P3, hP3, rfl⟩ fun x hx e ⟨P4, hP4, ee⟩ => by
          subst ee
          obtain ⟨i, rfl, hi⟩ := rng_mem hx
          walk_at "go"
          refine ⟨rfl, ?_⟩
          walk_at "go"
          refine wf_use (drawn_deed_spec hP4) ?_
          rintro _ _ ⟨x, P5, rfl, rfl, hx, hP5⟩
          walk_at "go"
          exact ⟨⟨x, rfl, hx⟩, _, by with_unfolding_all rfl, P5, hP5, rfl⟩
      have hrl : (rng 0 q.toNat).length ≤ 12 := by simp [rng]; omega
      refine ⟨by omega, by omega, ?_⟩
      refine we_eq (by
        unfold wipeE
        rw [if_pos (by simpa using c5)]) ?_
      walk_at "go"
      refine ⟨_, _, r, ?_⟩
      obtain ⟨xs, rfl, hxs⟩ := deeds_of ha
      have H : HOk xs := ⟨by rw [List.length_map] at hzl; omega, hxs⟩
      have kr := ncs H
      have sh := shown_history_spec H
      have rh := read_history_spec H
      have oh := strOk_low (txt_low (hist_rows H))
      change PyData.strOk (histT xs) = true at oh
      walk_at "go"
      refine and_put n6 ?_
      have eh : PyData.list (xs.map Deed.D) = histD xs := rfl
      walk_at "go"
      refine wq_repr kr ?_
      generalize (keptD m ts h n en cs a xs).shown = kept at kr
      walk_at "go"
      refine and_put n7 ?_
      walk_at "go"
      refine wf_use wt ?_
      rintro _ _ ⟨rfl, rfl⟩
      walk_at "go"
      refine wf_use st ?_
      rintro _ _ ⟨rfl, rfl⟩
      walk_at "go"
      refine ⟨by rw [List.length_map]; have := H.1; omega, ?_⟩
      walk_at "go"
      refine ⟨_, _, lc_pure deedG (fun d hd => ?_), ?_⟩
      · obtain ⟨x, hx, rfl⟩ := List.mem_map.mp hd
        walk_at "go"
        refine ⟨rfl, ?_⟩
        walk_at "go"
        refine wf_use (deed_text_spec (hxs x hx)) ?_
        rintro _ _ ⟨rfl, rfl⟩
        walk_at "go"
        exact ⟨(deedG_D x).symm, _, by with_unfolding_all rfl, rfl⟩
      rw [eh] at *
      walk_at "go"
      refine wx_txt (rs := xs.map Deed.W) (hist_map xs) (by rw [List.length_map]; have := H.1; omega) (hist_rows H) ?_
      have et : txt (xs.map Deed.W) = histT xs := rfl
      rw [et]
      generalize histT xs = th at sh rh oh
      walk_at "go"
      refine and_put n9 ?_
      walk_at "go"
      refine wfx_use sw ?_
      rintro _ _ ⟨rfl, rfl⟩
      walk_at "go"
      refine wf_use ss ?_
      rintro _ _ ⟨rfl, rfl⟩
      walk_at "go"
      refine wf_use sh ?_
      rintro _ _ ⟨rfl, rfl⟩
      walk_at "go"
      refine wq_ne (ne_strs okw oks oh) ?_
      walk_at "go"
      refine ⟨by decide, ?_⟩
      refine for_use (fun e => ∃ s5 s10, MP s5 ∧ canWipe (some s5) = true ∧ MP s10 ∧ e = [.fz (scrD ns), .fz (.int k), .ow P4, .fz (webD m ts), .fz (shtD h n en cs a), s5, .fz (histD xs), .fz (.str kept), .un, .fz (.list [.str tw, .str tsh, .str th]), s10, .un, .un, .un]) ⟨s5, s10, n5, c5, n10, rfl⟩ ?_ ?_
      · rintro y hy _ ⟨s5, s10, n5, c5, n10, rfl⟩
        obtain ⟨j, rfl, hj⟩ := rng_mem hy
        refine put_one (s := s5) n5 ?_
        walk_at "go"
        refine wfx_use rw' ?_
        rintro _ _ ⟨rfl, rfl⟩
        walk_at "go"
        refine wfx_use rs ?_
        rintro _ _ ⟨rfl, rfl⟩
        walk_at "go"
        refine wfx_use rh ?_
        rintro _ _ ⟨rfl, rfl⟩
        walk_at "go"
        refine ⟨rfl, ?_⟩
        walk_at "go"
        refine ⟨by show 3 ≤ 100000; decide, ?_⟩
        refine and_put n10 ?_
        walk_at "go"
        refine wd_reprT (s := toldS) (d := keptD m ts h n en cs a xs) (by with_unfolding_all rfl) rfl kr ?_
        walk_at "go"
        refine wc_F (by simp) ?_
        walk_at "go"
        refine wq_repr kr ?_
        walk_at "go"
        refine wc_F (by simp) ?_
        walk_at "go"
        refine ⟨_, _, _, .ix 0, _, rfl, rfl, rfl, rfl, rfl, ?_⟩
        walk_at "go"
        refine ⟨_, _, _, .ix 1, _, rfl, rfl, rfl, rfl, rfl, ?_⟩
        walk_at "go"
        refine ⟨_, ts.map tieD, _, rfl, rfl, rfl, by have := W.len; rw [List.length_map]; omega, rfl, ?_⟩
        walk_at "go"
        refine ⟨_, _, _, .ix 2, _, rfl, rfl, rfl, rfl, rfl, ?_⟩
        walk_at "go"
        refine ⟨_, xs.map Deed.D, _, rfl, rfl, rfl, by have := H.1; rw [List.length_map]; omega, rfl, ?_⟩
        walk_at "go"
        exact ⟨.fz (.int j), _, rfl, rfl, rfl, rfl⟩
      · rintro _ ⟨s5, s10, n5, c5, n10, rfl⟩
        walk_at "go"
        exact ⟨.fz (.int k), .ow P4, .fz (webD m ts), .fz (shtD h n en cs a), s5, .fz (histD xs), .fz (.str kept), .fz (.list [.str tw, .str tsh, .str th]), s10, rfl, rfl, rfl, rfl, rfl, n5, rfl, rfl, rfl, n10, c5⟩
    · rintro _ ⟨s1, s2, s3, s4, s5, s6, s7, s9, s10, rfl, n1, n2, n3, n4, n5, n6, n7, n9, n10, c5⟩
      walk_at "go"
      refine ⟨by decide, ?_⟩
      walk_at "go"
      rw [odd_eq]
      have ew : ∀ x : Sv, wp [12, 13] ((([.fz (scrD ns), s1, s2, s3, s4, s5, s6, s7, .un, s9, s10, .un, .un, .un].set 11 (.ow (.list oddA))).set 11 (.ow (.list (oddD.map fun p => .tuple [p.1, p.2])))).set 11 x) = [.fz (scrD ns), s1, s2, s3, s4, s5, s6, s7, .un, s9, s10, x, .un, .un] := fun _ => rfl
      unfold oddA at ew
      rw [ew]
      refine ⟨_, _, odd_lc _ _ _ _ _ _ _ _ _ _ _ _, ?_⟩
      walk_at "go"
      refine wq_ne (d := .bool false) rfl ?_
      walk_at "go"
      have eT : histT [] = ("" : Str) := by decide +kernel
      have H0 : HOk [] := ⟨by decide, nofun⟩
      have r0 := read_history_spec H0
      have s0 := shown_history_spec H0
      rw [eT] at r0 s0
      refine wfx_use r0 ?_
      rintro _ _ ⟨rfl, rfl⟩
      walk_at "go"
      refine wq_eq (d := .bool true) rfl ?_
      walk_at "go"
      refine wf_use s0 ?_
      rintro _ _ ⟨rfl, rfl⟩
      walk_at "go"
      exact ⟨congrArg PyData.bool (by decide +kernel), rfl⟩
  obtain ⟨_, _, e, rfl, rfl⟩ := main
  exact e
end
end K58
open PySem PySem.W PySem.Calls PyProof.Rows
set_option maxHeartbeats 0 in
theorem PySem.Challenge.cw_linkheralds_k58_texts_written_and_read_holds : PySem.Challenge.rw_linkheralds_k58_texts_written_and_read.Holds := by
  w_on; o_law
  refine HandSHeadRun.head_any (r := OpenLaw.row PySem.Challenge.rw_linkheralds_k58_texts_written_and_read) (q := view (OpenLaw.row PySem.Challenge.rw_linkheralds_k58_texts_written_and_read).prog [47]) (H := K58.hk) (ob := K58.ob) (M := 20000) (loose := ("HeraldError" :: "NoWeb" :: "NoText" :: "MOST_HOUSES" :: "MOST_TIES" :: "MOST_PRICE" :: "is_whole" :: "is_house" :: "is_price" :: "is_tie" :: "look_at_web" :: "MOST_AGE" :: "is_told_tie" :: "are_told_ties" :: "is_sheet" :: "FIGURES" :: "MOST_FIGURES" :: "FORMS" :: "is_figures" :: "are_figures" :: "look_at_text" :: "shown_web" :: "read_web" :: "shown_sheet" :: "tie_of" :: "read_sheet" :: "shown_deed" :: "shown_history" :: "is_given" :: "deed_of" :: "read_history" :: "_law_cell_at" :: "_law_pool" :: "_law_take" :: "_law_price" :: "_law_web" :: "_law_drawn_sheet" :: "_law_drawn_deed" :: "_law_web_text" :: "_law_sheet_text" :: "_law_deed_text" :: "_law_web_refused" :: [] : List PySem.Str)) (d := HandSHeadRun.topDef (OpenLaw.row PySem.Challenge.rw_linkheralds_k58_texts_written_and_read).prog 47) (kwd := []) K58.ob_eq
    (by kernel_rfl) (fun s => by kernel_rfl) K58.run (by kernel_rfl) (by kernel_rfl) (by kernel_rfl) (by rfl) (by first | assumption | decide +kernel) (by decide +kernel) ⟨rfl, rfl, rfl, rfl, rfl, by decide +kernel⟩ ?hw ?hc
  case hw => w_witness2
  case hc =>
    refine DL.walkGT (l := PySem.Challenge.rw_linkheralds_k58_texts_written_and_read) (n := 63) (k := 7) (x := "_law_script") rfl (by decide) (by kernel_rfl) ⟨rfl, by decide, by decide⟩ ?G
    intro w mg fa h Y G hmg0
    obtain ⟨K, KX, c⟩ := Y
    have hmg : mg ("law" : PySem.Str) = some (.ref fa) := by
      have e : (HandSHeadRun.topDef (OpenLaw.row PySem.Challenge.rw_linkheralds_k58_texts_written_and_read).prog 47).name = ("law" : PySem.Str) := by kernel_rfl
      rw [← e]
      exact hmg0
    obtain ⟨fd, hb, hF⟩ := K58.facts (P := (PySem.Challenge.rw_linkheralds_k58_texts_written_and_read).prog) (w := w) KX G hmg c
    exact ⟨K, fd, _, K58.csT K, KX, (fun p hp => nomatch hp), (fun p hp => nomatch hp), (fun p hp => nomatch hp), hb, fun H a ns hl hH hS => DL.spD_law (K58.law_true ns hl) DL.tabs_nil hS, hF⟩
