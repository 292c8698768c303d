import PyProof.Rows.All
import Wide.All
import OpenK.AllK
import Wide.FinOn
import HandS.ForMost
import HandS.IsInst
import HandS.TupAny
import HandS.TupMul
import HandS.Wide
import HandS.More
import HandS.Zip
import HandS.Style
import KE.GoesEnum
import HandS.Defaults
import PySem.Challenge.RW_linkheralds_k03_sheets_or_none
import KE.KStateDown
import HandS.Head0
import HandS.Head1
import HandS.Head2
import HandS.HeadEnd
import HandS.HeadHook1
import HandS.HeadHook2
set_option Elab.async false
set_option linter.all false
set_option maxRecDepth 100000
set_option maxHeartbeats 4000000
set_option autoImplicit false
/-! DLa: the data layer. Python values as plain data (PyData), what a body does as functions on such data, over HandS. -/
namespace DL
open PySem L2

abbrev D := PyData
abbrev Fg := PySem.W.Frag

/-! ### heaps -/
/-- F's objects stand in G -/
def Sub (F G : Hp) : Prop := ∀ a o, F a = some o → G a = some o
theorem Sub.refl (F : Hp) : Sub F F := fun _ _ h => h
theorem Sub.trans {F G H : Hp} (s : Sub F G) (t : Sub G H) : Sub F H := fun a o h => t a o (s a o h)
theorem Sub.new {F : Hp} {p : Addr} {o : HO} (h : F p = none) : Sub F (upd F p o) := fun a u e => by
  rw [upd_ne (ne_of_none e h)]; exact e
/-- a dict: what a loop may lock -/
def IsDct : HO → Prop
  | .dK _ => True
  | .dT kvs => kvs ≠ []
  | _ => False
/-- F's objects stand in H, dicts perhaps locked -/
def Lk (F H : Hp) : Prop := ∀ a o, F a = some o → H a = some o ∨ (IsDct o ∧ ∃ ob, H a = some (.frz ob o))
theorem Sub.lk {F H : Hp} (s : Sub F H) : Lk F H := fun a o h => .inl (s a o h)
theorem Lk.lst {F H : Hp} (s : Lk F H) {a : Addr} {xs : List V} (h : F a = some (.lst xs)) : H a = some (.lst xs) := by
  rcases s a _ h with h | ⟨z, _⟩
  · exact h
  · exact z.elim
theorem Lk.tup {F H : Hp} (s : Lk F H) {a : Addr} {xs : List V} (h : F a = some (.tup xs)) : H a = some (.tup xs) := by
  rcases s a _ h with h | ⟨z, _⟩
  · exact h
  · exact z.elim
theorem Lk.rd {F H : Hp} (s : Lk F H) {a : Addr} {u : HO} (h : Rd F a u) : Rd H a u := by
  rcases h with h | ⟨ob, h⟩
  · rcases s a _ h with h | ⟨_, ob, h⟩
    · exact .inl h
    · exact .inr ⟨ob, h⟩
  · rcases s a _ h with h | ⟨b, _⟩
    · exact .inr ⟨ob, h⟩
    · exact b.elim
theorem Lk.sqL {K : Fg} {F H : Hp} (s : Lk F H) {a : Addr} {xs : List V} (h : SqL K F a xs) : SqL K H a xs := by
  rcases h with h | h
  · exact .inl (s.rd h)
  · exact .inr h
theorem Lk.none {F H : Hp} (s : Lk F H) {a : Addr} (h : H a = none) : F a = none := by
  cases e : F a with
  | none => rfl
  | some o =>
    rcases s a o e with q | ⟨_, ob, q⟩ <;> (rw [h] at q; cases q)

/-! ### data -/
def kD : Key → D
  | .inl i => .int i
  | .inr x => .str x
mutual
/-- the value v is the data d, all of whose objects stand in F -/
inductive Dt (K : Fg) (F : Hp) : V → D → Prop
  | non : Dt K F .non .none
  | bl (b : Bool) : Dt K F (.bl b) (.bool b)
  | int (i : Int) : Dt K F (.int i) (.int i)
  | str (x : Str) : Dt K F (.str x) (.str x)
  | lst {a : Addr} {xs : List V} {ds : List D} : F a = some (.lst xs) → DtA K F xs ds → Dt K F (.ref a) (.list ds)
  | tup {a : Addr} {xs : List V} {ds : List D} : F a = some (.tup xs) → DtA K F xs ds → Dt K F (.ref a) (.tuple ds)
  | scr {a : Addr} {ns : List Int} : SqL K F a (ns.map V.int) → Dt K F (.ref a) (.dict [(.none, .list (ns.map .int))])
  | dk {a : Addr} {kvs : List (Key × V)} {es : List (D × D)} : F a = some (.dK kvs) → DtK K F kvs es → Dt K F (.ref a) (.dict es)
  | dt {a : Addr} {kvs : List (List Key × V)} {es : List (D × D)} : F a = some (.dT kvs) → DtT K F kvs es → Dt K F (.ref a) (.dict es)
inductive DtA (K : Fg) (F : Hp) : List V → List D → Prop
  | nil : DtA K F [] []
  | cons {v : V} {vs : List V} {d : D} {ds : List D} : Dt K F v d → DtA K F vs ds → DtA K F (v :: vs) (d :: ds)
inductive DtK (K : Fg) (F : Hp) : List (Key × V) → List (D × D) → Prop
  | nil : DtK K F [] []
  | cons {k : Key} {v : V} {vs : List (Key × V)} {d : D} {ds : List (D × D)} : Dt K F v d → DtK K F vs ds → DtK K F ((k, v) :: vs) ((kD k, d) :: ds)
inductive DtT (K : Fg) (F : Hp) : List (List Key × V) → List (D × D) → Prop
  | nil : DtT K F [] []
  | cons {k : List Key} {v : V} {vs : List (List Key × V)} {d : D} {ds : List (D × D)} : Dt K F v d → DtT K F vs ds → DtT K F ((k, v) :: vs) ((.tuple (k.map kD), d) :: ds)
end
theorem Sub.sqL {K : Fg} {F G : Hp} (s : Sub F G) {a : Addr} {xs : List V} (h : SqL K F a xs) : SqL K G a xs := s.lk.sqL h
mutual
theorem Dt.mono {K : Fg} {F G : Hp} (s : Sub F G) : ∀ {v : V} {d : D}, Dt K F v d → Dt K G v d
  | _, _, .non => .non
  | _, _, .bl b => .bl b
  | _, _, .int b => .int b
  | _, _, .str b => .str b
  | _, _, .lst h t => .lst (s _ _ h) (t.mono s)
  | _, _, .tup h t => .tup (s _ _ h) (t.mono s)
  | _, _, .scr h => .scr (s.sqL h)
  | _, _, .dk h t => .dk (s _ _ h) (t.mono s)
  | _, _, .dt h t => .dt (s _ _ h) (t.mono s)
theorem DtA.mono {K : Fg} {F G : Hp} (s : Sub F G) : ∀ {v : List V} {d : List D}, DtA K F v d → DtA K G v d
  | _, _, .nil => .nil
  | _, _, .cons h t => .cons (h.mono s) (t.mono s)
theorem DtK.mono {K : Fg} {F G : Hp} (s : Sub F G) : ∀ {v : List (Key × V)} {d : List (D × D)}, DtK K F v d → DtK K G v d
  | _, _, .nil => .nil
  | _, _, .cons h t => .cons (h.mono s) (t.mono s)
theorem DtT.mono {K : Fg} {F G : Hp} (s : Sub F G) : ∀ {v : List (List Key × V)} {d : List (D × D)}, DtT K F v d → DtT K G v d
  | _, _, .nil => .nil
  | _, _, .cons h t => .cons (h.mono s) (t.mono s)
end
theorem DtA.length {K : Fg} {F : Hp} : ∀ {vs : List V} {ds : List D}, DtA K F vs ds → vs.length = ds.length
  | _, _, .nil => rfl
  | _, _, .cons _ t => congrArg Nat.succ t.length
theorem DtA.get {K : Fg} {F : Hp} : ∀ {vs : List V} {ds : List D} {i : Nat} {d : D}, DtA K F vs ds → ds[i]? = some d → ∃ v, vs[i]? = some v ∧ Dt K F v d
  | _, _, _, _, .nil, e => by simp at e
  | _, _, 0, _, .cons h _, e => by simp at e; subst e; exact ⟨_, rfl, h⟩
  | _, _, i + 1, d, .cons _ t, e => by
    obtain ⟨v, h1, h2⟩ := DtA.get (i := i) (d := d) t (by simpa using e)
    exact ⟨v, by simpa using h1, h2⟩
theorem DtA.get' {K : Fg} {F : Hp} : ∀ {vs : List V} {ds : List D} {i : Nat} {v : V}, DtA K F vs ds → vs[i]? = some v → ∃ d, ds[i]? = some d ∧ Dt K F v d
  | _, _, _, _, .nil, e => by simp at e
  | _, _, 0, _, .cons h _, e => by simp at e; subst e; exact ⟨_, rfl, h⟩
  | _, _, i + 1, d, .cons _ t, e => by
    obtain ⟨v, h1, h2⟩ := DtA.get' (i := i) (v := d) t (by simpa using e)
    exact ⟨v, by simpa using h1, h2⟩
theorem DtA.append {K : Fg} {F : Hp} : ∀ {vs ws : List V} {ds es : List D}, DtA K F vs ds → DtA K F ws es → DtA K F (vs ++ ws) (ds ++ es)
  | _, _, _, _, .nil, s => s
  | _, _, _, _, .cons r t, s => .cons r (t.append s)
theorem DtA.take {K : Fg} {F : Hp} : ∀ {vs : List V} {ds : List D} (n : Nat), DtA K F vs ds → DtA K F (vs.take n) (ds.take n)
  | _, _, 0, _ => .nil
  | _, _, _ + 1, .nil => .nil
  | _, _, n + 1, .cons r t => .cons r (t.take n)
theorem DtA.drop {K : Fg} {F : Hp} : ∀ {vs : List V} {ds : List D} (n : Nat), DtA K F vs ds → DtA K F (vs.drop n) (ds.drop n)
  | _, _, 0, r => r
  | _, _, _ + 1, .nil => .nil
  | _, _, n + 1, .cons _ t => t.drop n
theorem DtA.set {K : Fg} {F : Hp} {v : V} {d : D} (r : Dt K F v d) : ∀ {vs : List V} {ds : List D} (i : Nat), DtA K F vs ds → DtA K F (vs.set i v) (ds.set i d)
  | _, _, _, .nil => .nil
  | _, _, 0, .cons _ t => .cons r t
  | _, _, i + 1, .cons q t => .cons q (t.set r i)
theorem DtA.reverse {K : Fg} {F : Hp} : ∀ {vs : List V} {ds : List D}, DtA K F vs ds → DtA K F vs.reverse ds.reverse
  | _, _, .nil => .nil
  | _, _, .cons r t => by
    rw [List.reverse_cons, List.reverse_cons]
    exact t.reverse.append (.cons r .nil)

/-! ### an object that is one's own: its root may change, what it holds stands in F -/
def Own (K : Fg) (F H : Hp) (p : Addr) : D → Prop
  | .list ds => ∃ vs, H p = some (.lst vs) ∧ DtA K F vs ds
  | .dict es => (∃ kvs, H p = some (.dK kvs) ∧ DtK K F kvs es) ∨ ∃ kvs, H p = some (.dT kvs) ∧ DtT K F kvs es
  | _ => False
theorem Own.some {K : Fg} {F H : Hp} {p : Addr} {d : D} (h : Own K F H p d) : ∃ o, H p = some o ∧ True := by
  cases d with
  | list ds => obtain ⟨vs, e, _⟩ := h; exact ⟨_, e, trivial⟩
  | dict es => rcases h with ⟨_, e, _⟩ | ⟨_, e, _⟩ <;> exact ⟨_, e, trivial⟩
  | _ => exact h.elim
theorem Own.mono {K : Fg} {F G H H' : Hp} {p : Addr} {d : D} (h : Own K F H p d) (s : Sub F G) (k : ∀ o, H p = .some o → H' p = .some o) : Own K G H' p d := by
  cases d with
  | list ds => obtain ⟨vs, e, t⟩ := h; exact ⟨vs, k _ e, t.mono s⟩
  | dict es =>
    rcases h with ⟨vs, e, t⟩ | ⟨vs, e, t⟩
    · exact .inl ⟨vs, k _ e, t.mono s⟩
    · exact .inr ⟨vs, k _ e, t.mono s⟩
  | _ => exact h.elim
/-- it is put to the others -/
theorem Own.froze {K : Fg} {F H : Hp} {p : Addr} {d : D} {o : HO} (h : Own K F H p d) (e : H p = .some o) (n : F p = .none) : Dt K (upd F p o) (.ref p) d := by
  have s : Sub F (upd F p o) := Sub.new n
  cases d with
  | list ds => obtain ⟨vs, e', t⟩ := h; rw [e] at e'; cases e'; exact .lst upd_same (t.mono s)
  | dict es =>
    rcases h with ⟨vs, e', t⟩ | ⟨vs, e', t⟩
    · rw [e] at e'; cases e'; exact .dk upd_same (t.mono s)
    · rw [e] at e'; cases e'; exact .dt upd_same (t.mono s)
  | _ => exact h.elim

/-! ### the names' values -/
inductive Sv where
  | un | fz (d : D) | ow (d : D) | pw (d : D)
abbrev En := List Sv
/-- what was so at the entry; the objects that the caller gave to be changed, by slot; what is locked; what is held meanwhile -/
structure Bs where
  F0 : Hp
  H0 : Hp
  M : List (Nat × Addr)
  L : List Addr
  X : List (Addr × HO)
def IsOw (env : En) (i : Nat) (d : D) : Prop := env[i]? = some (.ow d) ∨ env[i]? = some (.pw d)
structure Sl (K : Fg) (B : Bs) (F H : Hp) (σ : L2.St) (env : En) : Prop where
  fh : Lk F H
  len : env.length = σ.length
  fz : ∀ (i : Nat) (d : D), env[i]? = some (Sv.fz d) → ∃ v, σ[i]? = some (some v) ∧ Dt K F v d
  own : ∀ (i : Nat) (d : D), IsOw env i d → ∃ p, σ[i]? = some (some (.ref p)) ∧ F p = none ∧ Own K F H p d ∧ (B.H0 p = none ∨ ∃ j, (j, p) ∈ B.M)
  ap : ∀ (i j : Nat) (d e : D) (p : Addr), IsOw env i d → IsOw env j e → σ[i]? = some (some (.ref p)) → σ[j]? = some (some (.ref p)) → i = j
  pm : ∀ q ∈ B.M, (∃ d : D, env[q.1]? = some (Sv.pw d)) ∧ σ[q.1]? = some (some (.ref q.2))
  f0 : Sub B.F0 F
  nw : ∀ p, B.F0 p = none → F p ≠ none → B.H0 p = none
  kp : ∀ p o, B.H0 p = some o → (∀ j, (j, p) ∉ B.M) → p ∉ B.L → H p = some o
  lc : ∀ p ∈ B.L, H p ≠ none
  hx : ∀ q ∈ B.X, H q.1 = some q.2 ∧ F q.1 = none ∧ B.H0 q.1 = none ∧ ∀ (i : Nat) (d : D), IsOw env i d → σ[i]? ≠ some (some (.ref q.1))
section
variable {K : Fg} {B : Bs} {F H : Hp} {σ : L2.St} {env : En}
/-- what is new now is new since the entry -/
theorem Sl.fresh (S : Sl K B F H σ env) {p : Addr} (n : H p = none) : B.H0 p = none := by
  cases e : B.H0 p with
  | none => rfl
  | some u =>
    exfalso
    by_cases hm : ∃ j, (j, p) ∈ B.M
    · obtain ⟨j, hj⟩ := hm
      obtain ⟨⟨d, hd⟩, hs⟩ := S.pm (j, p) hj
      obtain ⟨q', e1, _, e3, _⟩ := S.own j d (.inr hd)
      rw [hs] at e1; cases e1
      obtain ⟨w, hw, _⟩ := e3.some
      rw [n] at hw; cases hw
    · by_cases hl : p ∈ B.L
      · exact S.lc p hl n
      · have := S.kp p u e (fun j hj => hm ⟨j, hj⟩) hl
        rw [n] at this; cases this
theorem Sl.neOw (S : Sl K B F H σ env) {p : Addr} (n : H p = none) {i : Nat} {d : D} (o : IsOw env i d) : σ[i]? ≠ some (some (.ref p)) := fun e => by
  obtain ⟨q, e1, _, e3, _⟩ := S.own i d o
  rw [e] at e1; cases e1
  obtain ⟨w, hw, _⟩ := e3.some
  rw [n] at hw; cases hw
/-- a new object is laid -/
theorem Sl.laid (S : Sl K B F H σ env) {p : Addr} {o : HO} (n : H p = none) : Sl K B F (upd H p o) σ env := by
  refine ⟨fun a u e => ?_, S.len, S.fz, fun i d e => ?_, S.ap, S.pm, S.f0, S.nw, fun q u h1 h2 h3 => ?_, fun q hq => ?_, fun q hq => ?_⟩
  · have ne : a ≠ p := by
      rintro rfl
      rw [S.fh.none n] at e; cases e
    rw [upd_ne ne]; exact S.fh a u e
  · obtain ⟨q, h1, h2, h3, h4⟩ := S.own i d e
    have ne : q ≠ p := by
      rintro rfl
      exact S.neOw n e h1
    exact ⟨q, h1, h2, h3.mono (Sub.refl _) fun u hu => by rw [upd_ne ne]; exact hu, h4⟩
  · have := S.kp q u h1 h2 h3
    rw [upd_ne (ne_of_none this n)]
    exact this
  · by_cases h : q = p
    · subst h; rw [upd_same]; exact fun z => nomatch z
    · rw [upd_ne h]; exact S.lc q hq
  · obtain ⟨g1, g2⟩ := S.hx q hq
    exact ⟨by rw [upd_ne (ne_of_none g1 n)]; exact g1, g2⟩
/-- an object of nobody is put to the others -/
theorem Sl.froze (S : Sl K B F H σ env) {p : Addr} {o : HO} (h : H p = some o) (n : F p = none) (n0 : B.H0 p = none) (no : ∀ i d, IsOw env i d → σ[i]? ≠ some (some (.ref p))) (nx : ∀ q ∈ B.X, q.1 ≠ p) : Sl K B (upd F p o) H σ env := by
  have s : Sub F (upd F p o) := Sub.new n
  refine ⟨fun a u e => ?_, S.len, fun i d e => ?_, fun i d e => ?_, S.ap, S.pm, S.f0.trans s, fun q h1 h2 => ?_, S.kp, S.lc, fun q hq => ?_⟩
  · by_cases ha : a = p
    · subst ha; rw [upd_same] at e; cases e; exact .inl h
    · rw [upd_ne ha] at e; exact S.fh a u e
  · obtain ⟨v, h1, h2⟩ := S.fz i d e
    exact ⟨v, h1, h2.mono s⟩
  · obtain ⟨q, h1, h2, h3, h4⟩ := S.own i d e
    have ne : q ≠ p := by
      rintro rfl
      exact no i d e h1
    exact ⟨q, h1, by rw [upd_ne ne]; exact h2, h3.mono s fun u hu => hu, h4⟩
  · by_cases ha : q = p
    · subst ha; exact n0
    · rw [upd_ne ha] at h2; exact S.nw q h1 h2
  · obtain ⟨g1, g2, g3⟩ := S.hx q hq
    exact ⟨g1, by rw [upd_ne (nx q hq)]; exact g2, g3⟩
theorem Sl.neX (S : Sl K B F H σ env) {p : Addr} (n : H p = none) : ∀ q ∈ B.X, q.1 ≠ p := fun q hq => ne_of_none (S.hx q hq).1 n
/-- a new object, put to the others at once -/
theorem Sl.new (S : Sl K B F H σ env) {p : Addr} {o : HO} (n : H p = none) : Sl K B (upd F p o) (upd H p o) σ env :=
  (S.laid n).froze upd_same (S.fh.none n) (S.fresh n) (fun i d e => S.neOw n e) (S.neX n)
theorem Sl.subNew (S : Sl K B F H σ env) {p : Addr} {o : HO} (n : H p = none) : Sub F (upd F p o) := Sub.new (S.fh.none n)
/-- a name's own object is put to the others -/
theorem Sl.frozeAt (S : Sl K B F H σ env) {i : Nat} {d : D} (e : env[i]? = some (.ow d)) : ∃ p o, σ[i]? = some (some (.ref p)) ∧ Sub F (upd F p o) ∧ Dt K (upd F p o) (.ref p) d ∧ Sl K B (upd F p o) H σ (env.set i (.fz d)) := by
  obtain ⟨p, h1, h2, h3, h4⟩ := S.own i d (.inl e)
  obtain ⟨o, ho, hb⟩ := h3.some
  have s : Sub F (upd F p o) := Sub.new h2
  have hd := h3.froze ho h2
  have hi : i < env.length := (List.getElem?_eq_some_iff.mp e).1
  have other : ∀ {j : Nat} {x : Sv}, (env.set i (.fz d))[j]? = some x → (j = i ∧ x = .fz d) ∨ (j ≠ i ∧ env[j]? = some x) := fun {j x} q => by
    by_cases hj : j = i
    · subst hj
      rw [List.getElem?_set_self hi] at q
      cases q
      exact .inl ⟨rfl, rfl⟩
    · rw [List.getElem?_set_ne (Ne.symm hj)] at q
      exact .inr ⟨hj, q⟩
  have ow' : ∀ {j : Nat} {x : D}, IsOw (env.set i (.fz d)) j x → j ≠ i ∧ IsOw env j x := fun {j x} q => by
    rcases q with q | q
    · rcases other q with ⟨_, z⟩ | ⟨a, b⟩
      · cases z
      · exact ⟨a, .inl b⟩
    · rcases other q with ⟨_, z⟩ | ⟨a, b⟩
      · cases z
      · exact ⟨a, .inr b⟩
  have n0 : B.H0 p = none := by
    rcases h4 with h4 | ⟨j, hj⟩
    · exact h4
    · obtain ⟨⟨d', hd'⟩, hs⟩ := S.pm (j, p) hj
      have := S.ap i j d d' p (.inl e) (.inr hd') h1 hs
      subst this
      rw [e] at hd'; cases hd'
  refine ⟨p, o, h1, s, hd, fun a u q => ?_, by simpa using S.len, fun j x q => ?_, fun j x q => ?_, fun j k x y q a b => S.ap j k x y q (ow' a).2 (ow' b).2, fun q hq => ?_, S.f0.trans s, fun q a b => ?_, S.kp, S.lc, fun q hq => ?_⟩
  · by_cases ha : a = p
    · subst ha; rw [upd_same] at q; cases q; exact .inl ho
    · rw [upd_ne ha] at q; exact S.fh a u q
  · rcases other q with ⟨rfl, z⟩ | ⟨a, b⟩
    · cases z; exact ⟨_, h1, hd⟩
    · obtain ⟨v, h5, h6⟩ := S.fz j x b
      exact ⟨v, h5, h6.mono s⟩
  · obtain ⟨hj, q⟩ := ow' q
    obtain ⟨r, g1, g2, g3, g4⟩ := S.own j x q
    have ne : r ≠ p := by
      rintro rfl
      exact hj (S.ap j i x d r q (.inl e) g1 h1)
    exact ⟨r, g1, by rw [upd_ne ne]; exact g2, g3.mono s fun u hu => hu, g4⟩
  · obtain ⟨⟨x, hx⟩, hs⟩ := S.pm q hq
    have : q.1 ≠ i := by
      rintro z
      rw [z, e] at hx; cases hx
    exact ⟨⟨x, by rw [List.getElem?_set_ne (Ne.symm this)]; exact hx⟩, hs⟩
  · by_cases ha : q = p
    · subst ha; exact n0
    · rw [upd_ne ha] at b; exact S.nw q a b
  · obtain ⟨g1, g2, g3, g4⟩ := S.hx q hq
    have ne : q.1 ≠ p := fun z => g4 i d (.inl e) (by rw [z]; exact h1)
    exact ⟨g1, by rw [upd_ne ne]; exact g2, g3, fun j x h => g4 j x (ow' h).2⟩
end
end DL

/-! DLb: readings as functions on data. -/
namespace DL
open PySem L2

/-! ### a weaker reading -/
section
variable {X : Cx}
theorem PEi {e : Expr} {t u : TE} (h : PE X e t) (le : ∀ σ H Q, u σ H Q → t σ H Q) : PE X e u := ⟨fun pins s σ H Q I q => h.run pins s σ H Q I (le σ H Q q)⟩
theorem PTi {e : Expr} {t u : TT} (h : PT X e t) (le : ∀ σ H Q, u σ H Q → t σ H Q) : PT X e u := ⟨fun pins s σ H Q I q => h.run pins s σ H Q I (le σ H Q q)⟩
theorem PWi {e : Expr} {t u : TT} (h : PW X e t) (le : ∀ σ H Q, u σ H Q → t σ H Q) : PW X e u := ⟨fun wh pins s σ H Q I q => h.run wh pins s σ H Q I (le σ H Q q)⟩
theorem PAi {e : List Expr} {t u : TA} (h : PA X e t) (le : ∀ σ H Q, u σ H Q → t σ H Q) : PA X e u := ⟨fun pos pins s σ H Q I q => h.run pos pins s σ H Q I (le σ H Q q)⟩
theorem PSi {e : Stmt} {t u : TS} (h : PS X e t) (le : ∀ E σ H, u E σ H → t E σ H) : PS X e u := ⟨fun pins s σ H E I q => h.run pins s σ H E I (le E σ H q)⟩
theorem PSsi {e : List Stmt} {t u : TS} (h : PSs X e t) (le : ∀ E σ H, u E σ H → t E σ H) : PSs X e u := ⟨fun pins s σ H E I q => h.run pins s σ H E I (le E σ H q)⟩
end

/-! ### expressions -/
abbrev Df := En → Option (D × En)
abbrev Bf := En → Option (Bool × En)
/-- the value is the data -/
def tD (K : Fg) (f : Df) : TE := fun σ H Q => ∃ B F env d env', Sl K B F H σ env ∧ f env = some (d, env') ∧ ∀ v F' H', Sl K B F' H' σ env' → Sub F F' → Dt K F' v d → Q v H'
/-- a new object that is nobody's yet -/
def tN (K : Fg) (f : Df) : TE := fun σ H Q => ∃ B F env d env', Sl K B F H σ env ∧ f env = some (d, env') ∧
  ∀ p F' H', Sl K B F' H' σ env' → Sub F F' → F' p = none → B.H0 p = none → (∀ i e, IsOw env' i e → σ[i]? ≠ some (some (.ref p))) → (∀ q ∈ B.X, q.1 ≠ p) → Own K F' H' p d → Q (.ref p) H'
def tT (K : Fg) (f : Bf) : TT := fun σ H Q => ∃ B F env b env', Sl K B F H σ env ∧ f env = some (b, env') ∧ ∀ F' H', Sl K B F' H' σ env' → Sub F F' → Q b H'
/-- what is an operand: an expression, or a name whose object may be one's own -/
inductive Opd where
  | ex (f : Df) | vr (i : Nat)
inductive OV where
  | fz (d : D) | sl (i : Nat)
def slotV (i : Nat) : Option Sv → Option OV
  | some (.fz d) => some (.fz d)
  | some (.ow _) => some (.sl i)
  | some (.pw _) => some (.sl i)
  | _ => none
def Opd.ev : Opd → En → Option (OV × En)
  | .ex f, env => (f env).bind fun r => some (.fz r.1, r.2)
  | .vr i, env => (slotV i env[i]?).bind fun u => some (u, env)
def slotD : Option Sv → Option D
  | some (.fz d) => some d
  | some (.ow d) => some d
  | some (.pw d) => some d
  | _ => none
def OV.look : OV → En → Option D
  | .fz d, _ => some d
  | .sl i, env => slotD env[i]?
def OVr (K : Fg) (F : Hp) (σ : L2.St) : OV → V → Prop
  | .fz d, v => Dt K F v d
  | .sl i, v => σ[i]? = some (some v)
/-- read: of the others, or one's own -/
def Bv (K : Fg) (F H : Hp) (v : V) (d : D) : Prop := Dt K F v d ∨ ∃ p, v = .ref p ∧ F p = none ∧ Own K F H p d
theorem OVr.mono {K : Fg} {F G : Hp} {σ : L2.St} {u : OV} {v : V} (h : OVr K F σ u v) (s : Sub F G) : OVr K G σ u v := by
  cases u with
  | fz d => exact Dt.mono s h
  | sl i => exact h
theorem OVr.bv {K : Fg} {B : Bs} {F H : Hp} {σ : L2.St} {env : En} {u : OV} {v : V} {d : D} (S : Sl K B F H σ env) (h : OVr K F σ u v) (e : u.look env = some d) : Bv K F H v d := by
  cases u with
  | fz d' => cases e; exact .inl h
  | sl i =>
    have h' : σ[i]? = some (some v) := h
    have e' : slotD env[i]? = some d := e
    cases q : env[i]? with
    | none => rw [q] at e'; cases e'
    | some x =>
      rw [q] at e'
      cases x with
      | un => cases e'
      | fz d' =>
        cases e'
        obtain ⟨w, h1, h2⟩ := S.fz i _ q
        rw [h'] at h1; cases h1
        exact .inl h2
      | ow d' =>
        cases e'
        obtain ⟨p, h1, h2, h3, _⟩ := S.own i _ (.inl q)
        rw [h'] at h1; cases h1
        exact .inr ⟨p, rfl, h2, h3⟩
      | pw d' =>
        cases e'
        obtain ⟨p, h1, h2, h3, _⟩ := S.own i _ (.inr q)
        rw [h'] at h1; cases h1
        exact .inr ⟨p, rfl, h2, h3⟩
def tO (K : Fg) (o : Opd) : TE := fun σ H Q => ∃ B F env u env', Sl K B F H σ env ∧ o.ev env = some (u, env') ∧ ∀ v F' H', Sl K B F' H' σ env' → Sub F F' → OVr K F' σ u v → Q v H'
def evs : List Opd → En → Option (List OV × En)
  | [], env => some ([], env)
  | o :: r, env => (o.ev env).bind fun t => (evs r t.2).bind fun z => some (t.1 :: z.1, z.2)
def looks : List OV → En → Option (List D)
  | [], _ => some []
  | u :: r, env => (u.look env).bind fun d => (looks r env).bind fun ds => some (d :: ds)
def OVA (K : Fg) (F : Hp) (σ : L2.St) : List OV → List V → Prop
  | [], [] => True
  | u :: us, v :: vs => OVr K F σ u v ∧ OVA K F σ us vs
  | _, _ => False
def BvA (K : Fg) (F H : Hp) : List V → List D → Prop
  | [], [] => True
  | v :: vs, d :: ds => Bv K F H v d ∧ BvA K F H vs ds
  | _, _ => False
theorem OVA.mono {K : Fg} {F G : Hp} {σ : L2.St} (s : Sub F G) : ∀ {us : List OV} {vs : List V}, OVA K F σ us vs → OVA K G σ us vs
  | [], [], _ => trivial
  | _ :: _, _ :: _, h => ⟨h.1.mono s, h.2.mono s⟩
  | [], _ :: _, h => h.elim
  | _ :: _, [], h => h.elim
theorem OVA.bv {K : Fg} {B : Bs} {F H : Hp} {σ : L2.St} {env : En} (S : Sl K B F H σ env) : ∀ {us : List OV} {vs : List V} {ds : List D}, OVA K F σ us vs → looks us env = some ds → BvA K F H vs ds
  | [], [], _, _, e => by cases e; trivial
  | u :: us, v :: vs, ds, h, e => by
    obtain ⟨d, q, e⟩ := Option.bind_eq_some_iff.mp e
    obtain ⟨es, q2, e⟩ := Option.bind_eq_some_iff.mp e
    cases e
    exact ⟨h.1.bv S q, h.2.bv S q2⟩
  | [], _ :: _, _, h, _ => h.elim
  | _ :: _, [], _, h, _ => h.elim
def tAr (K : Fg) (os : List Opd) : TA := fun σ H Q => ∃ B F env us env', Sl K B F H σ env ∧ evs os env = some (us, env') ∧ ∀ vs F' H', Sl K B F' H' σ env' → Sub F F' → OVA K F' σ us vs → Q vs H'

section
variable {X : Cx} {e a b : Expr} {es : List Expr} {pos : Pos}
/-- from a new object to the others -/
theorem de_new {f : Df} (h : PE X e (tN X.K f)) : PE X e (tD X.K f) := PEi h fun σ H Q ⟨B, F, env, d, env', S, ef, k⟩ => by
  refine ⟨B, F, env, d, env', S, ef, fun p F' H' S' s n n0 no nx ow => ?_⟩
  obtain ⟨o, ho, hb⟩ := ow.some
  exact k (.ref p) (upd F' p o) H' (S'.froze ho n n0 no nx) (s.trans (Sub.new n)) (ow.froze ho n)
theorem do_ex {f : Df} (h : PE X e (tD X.K f)) : PE X e (tO X.K (.ex f)) := PEi h fun σ H Q ⟨B, F, env, u, env', S, ef, k⟩ => by
  obtain ⟨⟨d, e1⟩, q, ef⟩ := Option.bind_eq_some_iff.mp (show (f env).bind (fun r => some (OV.fz r.1, r.2)) = some (u, env') from ef)
  cases ef
  exact ⟨B, F, env, d, _, S, q, fun v F' H' S' s hd => k v F' H' S' s hd⟩
theorem do_vr (i : Nat) {x : Str} (hN : X.N[i]? = some x := by rfl) (hv : Vis X.env.scope x := by first | exact Or.inl rfl | exact Or.inr (Or.inl rfl) | exact Or.inr (Or.inr rfl)) (hd : (x == ("__debug__" : Str)) = false := by decide)
    (hcd : (x == ("__classdict__" : Str)) = false := by decide) : PE X (.Name x pos) (tO X.K (.vr i)) := PEi (pe_var hN hv hd hcd) fun σ H Q ⟨B, F, env, u, env', S, ef, k⟩ => by
  dsimp only [Opd.ev] at ef
  cases q : env[i]? with
  | none => rw [q] at ef; cases ef
  | some z =>
    rw [q] at ef
    cases z with
    | un => cases ef
    | fz d =>
      cases ef
      obtain ⟨v, h1, h2⟩ := S.fz i d q
      exact ⟨v, h1, k v F H S (Sub.refl F) h2⟩
    | ow d =>
      cases ef
      obtain ⟨p, h1, _⟩ := S.own i d (.inl q)
      exact ⟨_, h1, k _ F H S (Sub.refl F) h1⟩
    | pw d =>
      cases ef
      obtain ⟨p, h1, _⟩ := S.own i d (.inr q)
      exact ⟨_, h1, k _ F H S (Sub.refl F) h1⟩
/-- a name's value, handed on: one's own object is put to the others -/
def eVar (i : Nat) : Df := fun env => match env[i]? with
  | some (.fz d) => some (d, env)
  | some (.ow d) => some (d, env.set i (.fz d))
  | _ => none
theorem de_var (i : Nat) {x : Str} (hN : X.N[i]? = some x := by rfl) (hv : Vis X.env.scope x := by first | exact Or.inl rfl | exact Or.inr (Or.inl rfl) | exact Or.inr (Or.inr rfl)) (hd : (x == ("__debug__" : Str)) = false := by decide)
    (hcd : (x == ("__classdict__" : Str)) = false := by decide) : PE X (.Name x pos) (tD X.K (eVar i)) := PEi (pe_var hN hv hd hcd) fun σ H Q ⟨B, F, env, d, env', S, ef, k⟩ => by
  unfold eVar at ef
  cases q : env[i]? with
  | none => rw [q] at ef; cases ef
  | some z =>
    rw [q] at ef
    cases z with
    | un => cases ef
    | pw _ => cases ef
    | fz d =>
      cases ef
      obtain ⟨v, h1, h2⟩ := S.fz i d q
      exact ⟨v, h1, k v F H S (Sub.refl F) h2⟩
    | ow d =>
      cases ef
      obtain ⟨p, o, h1, s, hd, S'⟩ := S.frozeAt q
      exact ⟨_, h1, k _ _ H S' s hd⟩
def eC (d : D) : Df := fun env => some (d, env)
theorem de_c {v : V} {d : D} (h : PE X e (tC v)) (hd : ∀ F, Dt X.K F v d) : PE X e (tD X.K (eC d)) := PEi h fun σ H Q ⟨B, F, env, d', env', S, ef, k⟩ => by
  cases ef
  exact k v F H S (Sub.refl F) (hd F)
theorem de_int {i : Int} {j : Nat} : PE X (.Constant (.int i) j pos) (tD X.K (eC (.int i))) := de_c pe_int fun _ => .int i
theorem de_bool {b : Bool} {j : Nat} : PE X (.Constant (.bool b) j pos) (tD X.K (eC (.bool b))) := de_c pe_bl fun _ => .bl b
theorem de_none {j : Nat} : PE X (.Constant .none j pos) (tD X.K (eC .none)) := de_c pe_non fun _ => .non
theorem de_str {x : Str} {j : Nat} : PE X (.Constant (.str x) j pos) (tD X.K (eC (.str x))) := de_c pe_str fun _ => .str x
/-- a module's constant -/
theorem de_globInt {x : Str} {i : Int} {t : Tok} (hg : Gl X x) (hm : X.mg x = some (.int i t)) (hd : (x == ("__debug__" : Str)) = false := by decide) : PE X (.Name x pos) (tD X.K (eC (.int i))) := de_c (v := .int i) (pe_glob hg hm ⟨t, rfl⟩ hd) fun _ => .int i

/-! ### operands in a row -/
theorem da_nil : PA X [] (tAr X.K []) := PAi pa_nil fun σ H Q ⟨B, F, env, us, env', S, ef, k⟩ => by
  cases ef
  exact k [] F H S (Sub.refl F) trivial
theorem da_cons {o : Opd} {os : List Opd} (ha : PE X e (tO X.K o)) (hr : PA X es (tAr X.K os)) (hs : starEach (e :: es) X.env = (false, eval e X.env) :: starEach es X.env := by rfl) : PA X (e :: es) (tAr X.K (o :: os)) :=
  PAi (pa_cons ha hr hs) fun σ H Q ⟨B, F, env, us, env', S, ef, k⟩ => by
    obtain ⟨⟨u, e1⟩, q, ef⟩ := Option.bind_eq_some_iff.mp (show (o.ev env).bind (fun t => (evs os t.2).bind fun z => some (t.1 :: z.1, z.2)) = some (us, env') from ef)
    obtain ⟨⟨us', e2⟩, q2, ef⟩ := Option.bind_eq_some_iff.mp ef
    cases ef
    exact ⟨B, F, env, u, e1, S, q, fun v F1 H1 S1 s1 h1 => ⟨B, F1, e1, us', _, S1, q2, fun vs F2 H2 S2 s2 h2 => k (v :: vs) F2 H2 S2 (s1.trans s2) ⟨h1.mono s2, h2⟩⟩⟩

/-! ### operators -/
def op1 (g : D → Option D) (a : Opd) : Df := fun env => (a.ev env).bind fun r => (r.1.look r.2).bind fun x => (g x).bind fun d => some (d, r.2)
def op2 (g : D → D → Option D) (a b : Opd) : Df := fun env => (a.ev env).bind fun r => (b.ev r.2).bind fun t => (r.1.look t.2).bind fun x => (t.1.look t.2).bind fun y => (g x y).bind fun d => some (d, t.2)
def opA (g : List D → Option D) (os : List Opd) : Df := fun env => (evs os env).bind fun r => (looks r.1 r.2).bind fun ds => (g ds).bind fun d => some (d, r.2)
theorem bd {α β : Type} {o : Option α} {f : α → Option β} {b : β} (h : o.bind f = some b) : ∃ a, o = some a ∧ f a = some b := Option.bind_eq_some_iff.mp h
/-- what follows a value, a new object -/
def KD (K : Fg) (B : Bs) (F : Hp) (σ : L2.St) (env : En) (d : D) (Q : VK) : Prop := ∀ v F' H', Sl K B F' H' σ env → Sub F F' → Dt K F' v d → Q v H'
def KN (K : Fg) (B : Bs) (F : Hp) (σ : L2.St) (env : En) (d : D) (Q : VK) : Prop := ∀ p F' H', Sl K B F' H' σ env → Sub F F' → F' p = none → B.H0 p = none → (∀ i e, IsOw env i e → σ[i]? ≠ some (some (.ref p))) → (∀ q ∈ B.X, q.1 ≠ p) → Own K F' H' p d → Q (.ref p) H'
def Ok1 (K : Fg) (r : V → Hp → VK → Prop) (g : D → Option D) : Prop := ∀ {B : Bs} {F H : Hp} {σ : L2.St} {env : En} {x : V} {a d : D} {Q : VK}, Sl K B F H σ env → Bv K F H x a → g a = some d → KD K B F σ env d Q → r x H Q
def Ok2 (K : Fg) (r : R2) (g : D → D → Option D) : Prop := ∀ {B : Bs} {F H : Hp} {σ : L2.St} {env : En} {x y : V} {a b d : D} {Q : VK}, Sl K B F H σ env → Bv K F H x a → Bv K F H y b → g a b = some d → KD K B F σ env d Q → r x y H Q
def Ok2N (K : Fg) (r : R2) (g : D → D → Option D) : Prop := ∀ {B : Bs} {F H : Hp} {σ : L2.St} {env : En} {x y : V} {a b d : D} {Q : VK}, Sl K B F H σ env → Bv K F H x a → Bv K F H y b → g a b = some d → KN K B F σ env d Q → r x y H Q
def OkA (K : Fg) (r : List V → Hp → VK → Prop) (g : List D → Option D) : Prop := ∀ {B : Bs} {F H : Hp} {σ : L2.St} {env : En} {xs : List V} {ds : List D} {d : D} {Q : VK}, Sl K B F H σ env → BvA K F H xs ds → g ds = some d → KD K B F σ env d Q → r xs H Q
def OkAN (K : Fg) (r : List V → Hp → VK → Prop) (g : List D → Option D) : Prop := ∀ {B : Bs} {F H : Hp} {σ : L2.St} {env : En} {xs : List V} {ds : List D} {d : D} {Q : VK}, Sl K B F H σ env → BvA K F H xs ds → g ds = some d → KN K B F σ env d Q → r xs H Q
theorem op1_le {K : Fg} {r : V → Hp → VK → Prop} {g : D → Option D} {a : Opd} (ho : Ok1 K r g) : ∀ σ H Q, tD K (op1 g a) σ H Q → tUn r (tO K a) σ H Q := fun σ H Q ⟨B, F, env, d, env', S, ef, k⟩ => by
  obtain ⟨⟨u, e1⟩, q1, ef⟩ := bd ef
  obtain ⟨x, q2, ef⟩ := bd ef
  obtain ⟨d', q3, ef⟩ := bd ef
  cases ef
  exact ⟨B, F, env, u, _, S, q1, fun v F1 H1 S1 s1 h1 => ho S1 (h1.bv S1 q2) q3 fun v' F' H' S' s' h' => k v' F' H' S' (s1.trans s') h'⟩
theorem op2_le {K : Fg} {r : R2} {g : D → D → Option D} {a b : Opd} (ho : Ok2 K r g) : ∀ σ H Q, tD K (op2 g a b) σ H Q → tOp r (tO K a) (tO K b) σ H Q := fun σ H Q ⟨B, F, env, d, env', S, ef, k⟩ => by
  obtain ⟨⟨u, e1⟩, q1, ef⟩ := bd ef
  obtain ⟨⟨w, e2⟩, q2, ef⟩ := bd ef
  obtain ⟨x, q3, ef⟩ := bd ef
  obtain ⟨y, q4, ef⟩ := bd ef
  obtain ⟨d', q5, ef⟩ := bd ef
  cases ef
  exact ⟨B, F, env, u, e1, S, q1, fun v F1 H1 S1 s1 h1 => ⟨B, F1, e1, w, _, S1, q2, fun v2 F2 H2 S2 s2 h2 => ho S2 ((h1.mono s2).bv S2 q3) (h2.bv S2 q4) q5 fun v' F' H' S' s' h' => k v' F' H' S' ((s1.trans s2).trans s') h'⟩⟩
theorem op2N_le {K : Fg} {r : R2} {g : D → D → Option D} {a b : Opd} (ho : Ok2N K r g) : ∀ σ H Q, tN K (op2 g a b) σ H Q → tOp r (tO K a) (tO K b) σ H Q := fun σ H Q ⟨B, F, env, d, env', S, ef, k⟩ => by
  obtain ⟨⟨u, e1⟩, q1, ef⟩ := bd ef
  obtain ⟨⟨w, e2⟩, q2, ef⟩ := bd ef
  obtain ⟨x, q3, ef⟩ := bd ef
  obtain ⟨y, q4, ef⟩ := bd ef
  obtain ⟨d', q5, ef⟩ := bd ef
  cases ef
  exact ⟨B, F, env, u, e1, S, q1, fun v F1 H1 S1 s1 h1 => ⟨B, F1, e1, w, _, S1, q2, fun v2 F2 H2 S2 s2 h2 => ho S2 ((h1.mono s2).bv S2 q3) (h2.bv S2 q4) q5 fun p F' H' S' s' a1 a2 a3 a5 a4 => k p F' H' S' ((s1.trans s2).trans s') a1 a2 a3 a5 a4⟩⟩
theorem opA_le {K : Fg} {r : List V → Hp → VK → Prop} {g : List D → Option D} {os : List Opd} (ho : OkA K r g) : ∀ σ H Q, tD K (opA g os) σ H Q → tCB r (tAr K os) σ H Q := fun σ H Q ⟨B, F, env, d, env', S, ef, k⟩ => by
  obtain ⟨⟨us, e1⟩, q1, ef⟩ := bd ef
  obtain ⟨ds, q2, ef⟩ := bd ef
  obtain ⟨d', q3, ef⟩ := bd ef
  cases ef
  exact ⟨B, F, env, us, _, S, q1, fun vs F1 H1 S1 s1 h1 => ho S1 (h1.bv S1 q2) q3 fun v' F' H' S' s' h' => k v' F' H' S' (s1.trans s') h'⟩
theorem opAN_le {K : Fg} {r : List V → Hp → VK → Prop} {g : List D → Option D} {os : List Opd} (ho : OkAN K r g) : ∀ σ H Q, tN K (opA g os) σ H Q → tCB r (tAr K os) σ H Q := fun σ H Q ⟨B, F, env, d, env', S, ef, k⟩ => by
  obtain ⟨⟨us, e1⟩, q1, ef⟩ := bd ef
  obtain ⟨ds, q2, ef⟩ := bd ef
  obtain ⟨d', q3, ef⟩ := bd ef
  cases ef
  exact ⟨B, F, env, us, _, S, q1, fun vs F1 H1 S1 s1 h1 => ho S1 (h1.bv S1 q2) q3 fun p F' H' S' s' a1 a2 a3 a5 a4 => k p F' H' S' (s1.trans s') a1 a2 a3 a5 a4⟩
theorem de_op {op : Operator} {r : R2} {g : D → D → Option D} {oa ob : Opd} (ho : OpR X (binaryOp op) r) (hk : Ok2 X.K r g) (ha : PE X a (tO X.K oa)) (hb : PE X b (tO X.K ob)) : PE X (.BinOp a op b pos) (tD X.K (op2 g oa ob)) := PEi (pe_op ho ha hb) (op2_le hk)
theorem de_opN {op : Operator} {r : R2} {g : D → D → Option D} {oa ob : Opd} (ho : OpR X (binaryOp op) r) (hk : Ok2N X.K r g) (ha : PE X a (tO X.K oa)) (hb : PE X b (tO X.K ob)) : PE X (.BinOp a op b pos) (tN X.K (op2 g oa ob)) := PEi (pe_op ho ha hb) (op2N_le hk)
theorem de_cmp {op : CmpOp} {r : R2} {g : D → D → Option D} {oa ob : Opd} (ho : OpR X (compareOp op) r) (hk : Ok2 X.K r g) (ha : PE X a (tO X.K oa)) (hb : PE X b (tO X.K ob)) (hm : behindInMarks op b = false) : PE X (.Compare a [op] [b] pos) (tD X.K (op2 g oa ob)) := PEi (pe_cmpR ho ha hb hm) (op2_le hk)
theorem de_callB {x : Str} {p : Pos} {id : String} {r : List V → Hp → VK → Prop} {g : List D → Option D} {os : List Opd} (hc : CallR X (.builtin id) r) (hk : OkA X.K r g) (hg : Gl X x) (hm : X.mg x = none) (hv : bootBuiltins x = some (.builtin id)) (ha : PA X (e :: es) (tAr X.K os)) (hn : x ≠ "__name__" := by decide) (hdb : (x == ("__debug__" : Str)) = false := by decide)
    (he : starEach (e :: es) X.env = (false, eval e X.env) :: starEach es X.env := by rfl) (hpl : (backTo pos (starEach es X.env)).any (·.1) = false := by rfl) : PE X (.Call (.Name x p) (e :: es) [] pos) (tD X.K (opA g os)) := PEi (pe_callB hc hg hm hv ha hn hdb he hpl) (opA_le hk)
theorem de_callBN {x : Str} {p : Pos} {id : String} {r : List V → Hp → VK → Prop} {g : List D → Option D} {os : List Opd} (hc : CallR X (.builtin id) r) (hk : OkAN X.K r g) (hg : Gl X x) (hm : X.mg x = none) (hv : bootBuiltins x = some (.builtin id)) (ha : PA X (e :: es) (tAr X.K os)) (hn : x ≠ "__name__" := by decide) (hdb : (x == ("__debug__" : Str)) = false := by decide)
    (he : starEach (e :: es) X.env = (false, eval e X.env) :: starEach es X.env := by rfl) (hpl : (backTo pos (starEach es X.env)).any (·.1) = false := by rfl) : PE X (.Call (.Name x p) (e :: es) [] pos) (tN X.K (opA g os)) := PEi (pe_callB hc hg hm hv ha hn hdb he hpl) (opAN_le hk)
theorem de_callTy {x : Str} {p : Pos} {T : String} {r : List V → Hp → VK → Prop} {g : List D → Option D} {os : List Opd} (hc : CallR X (.type T) r) (hk : OkA X.K r g) (hg : Gl X x) (hm : X.mg x = none) (hv : bootBuiltins x = some (.type T)) (ha : PA X (e :: es) (tAr X.K os)) (hn : x ≠ "__name__" := by decide) (hdb : (x == ("__debug__" : Str)) = false := by decide)
    (he : starEach (e :: es) X.env = (false, eval e X.env) :: starEach es X.env := by rfl) (hpl : (backTo pos (starEach es X.env)).any (·.1) = false := by rfl) : PE X (.Call (.Name x p) (e :: es) [] pos) (tD X.K (opA g os)) := PEi (pe_callTy hc hg hm hv ha hn hdb he hpl) (opA_le hk)
theorem de_callTyN {x : Str} {p : Pos} {T : String} {r : List V → Hp → VK → Prop} {g : List D → Option D} {os : List Opd} (hc : CallR X (.type T) r) (hk : OkAN X.K r g) (hg : Gl X x) (hm : X.mg x = none) (hv : bootBuiltins x = some (.type T)) (ha : PA X (e :: es) (tAr X.K os)) (hn : x ≠ "__name__" := by decide) (hdb : (x == ("__debug__" : Str)) = false := by decide)
    (he : starEach (e :: es) X.env = (false, eval e X.env) :: starEach es X.env := by rfl) (hpl : (backTo pos (starEach es X.env)).any (·.1) = false := by rfl) : PE X (.Call (.Name x p) (e :: es) [] pos) (tN X.K (opA g os)) := PEi (pe_callTy hc hg hm hv ha hn hdb he hpl) (opAN_le hk)
end
end DL

/-! DLc: tests, statements, targets. -/
namespace DL
open PySem L2

/-! ### tests -/
def bD (f : Df) : Bf := fun env => (f env).bind fun r => match r.1 with
  | .bool b => some (b, r.2)
  | _ => none
def bAnd (f g : Bf) : Bf := fun env => (f env).bind fun r => if r.1 = true then g r.2 else some (false, r.2)
def bOr (f g : Bf) : Bf := fun env => (f env).bind fun r => if r.1 = true then some (true, r.2) else g r.2
def bNot (f : Bf) : Bf := fun env => (f env).bind fun r => some (!r.1, r.2)
def eB (f : Bf) : Df := fun env => (f env).bind fun r => some (.bool r.1, r.2)
def eAnd (f g : Df) : Df := fun env => (bD f env).bind fun r => if r.1 = true then g r.2 else some (.bool false, r.2)
def eOr (f g : Df) : Df := fun env => (bD f env).bind fun r => if r.1 = true then some (.bool true, r.2) else g r.2
def eNot (f : Df) : Df := fun env => (bD f env).bind fun r => some (.bool (!r.1), r.2)
def eIf (c : Bf) (f g : Df) : Df := fun env => (c env).bind fun r => if r.1 = true then f r.2 else g r.2
def eChain (g g' : D → D → Option D) (a b c : Opd) : Df := fun env => (a.ev env).bind fun r => (b.ev r.2).bind fun t => (r.1.look t.2).bind fun x => (t.1.look t.2).bind fun y => (g x y).bind fun d => match d with
  | .bool true => (c.ev t.2).bind fun z => (t.1.look z.2).bind fun y' => (z.1.look z.2).bind fun w => (g' y' w).bind fun d' => some (d', z.2)
  | .bool false => some (.bool false, t.2)
  | _ => none
theorem Dt.bool_inv {K : Fg} {F : Hp} {v : V} {b : Bool} (h : Dt K F v (.bool b)) : v = .bl b := by cases h; rfl
theorem Dt.int_inv {K : Fg} {F : Hp} {v : V} {i : Int} (h : Dt K F v (.int i)) : v = .int i := by cases h; rfl
theorem Dt.str_inv {K : Fg} {F : Hp} {v : V} {x : Str} (h : Dt K F v (.str x)) : v = .str x := by cases h; rfl
theorem Dt.none_inv {K : Fg} {F : Hp} {v : V} (h : Dt K F v .none) : v = .non := by cases h; rfl
theorem Bv.dt {K : Fg} {F H : Hp} {v : V} {d : D} (h : Bv K F H v d) (n : ∀ p, ¬ Own K F H p d) : Dt K F v d := by
  rcases h with h | ⟨p, _, _, h⟩
  · exact h
  · exact absurd h (n p)
theorem Bv.bool_inv {K : Fg} {F H : Hp} {v : V} {b : Bool} (h : Bv K F H v (.bool b)) : v = .bl b := (h.dt fun _ z => z).bool_inv
theorem Bv.int_inv {K : Fg} {F H : Hp} {v : V} {b : Int} (h : Bv K F H v (.int b)) : v = .int b := (h.dt fun _ z => z).int_inv
theorem Bv.str_inv {K : Fg} {F H : Hp} {v : V} {b : Str} (h : Bv K F H v (.str b)) : v = .str b := (h.dt fun _ z => z).str_inv
theorem Bv.none_inv {K : Fg} {F H : Hp} {v : V} (h : Bv K F H v .none) : v = .non := (h.dt fun _ z => z).none_inv

theorem bD_inv {f : Df} {env : En} {b : Bool} {e : En} (h : bD f env = some (b, e)) : f env = some (.bool b, e) := by
  obtain ⟨⟨d, e1⟩, q, h⟩ := bd h
  cases d <;> first | (cases h; done) | skip
  cases h
  exact q
section
variable {X : Cx} {e a b c : Expr} {rest : List Expr} {pos : Pos}
theorem dt_val {f : Df} (h : PE X e (tD X.K f)) (he : ∀ whole, isTrue e X.env whole = (do let v ← whole; standAt e.pos; holding [v] (truthy v)) := by intro _; rfl) : PT X e (tT X.K (bD f)) :=
  PTi (pt_val h he) fun σ H Q ⟨B, F, env, b, env', S, ef, k⟩ => ⟨B, F, env, .bool b, env', S, bD_inv ef, fun v F' H' S' s h => ⟨b, h.bool_inv, k F' H' S' s⟩⟩
theorem dt_cmp {op : CmpOp} {r : R2} {g : D → D → Option D} {oa ob : Opd} (ho : OpR X (compareOp op) r) (hk : Ok2 X.K r g) (ha : PE X a (tO X.K oa)) (hb : PE X b (tO X.K ob)) (hm : behindInMarks op b = false) : PT X (.Compare a [op] [b] pos) (tT X.K (bD (op2 g oa ob))) :=
  PTi (pt_cmpR ho ha hb hm) fun σ H Q ⟨B, F, env, b, env', S, ef, k⟩ => op2_le hk σ H _ ⟨B, F, env, .bool b, env', S, bD_inv ef, fun v F' H' S' s h => ⟨b, h.bool_inv, k F' H' S' s⟩⟩
theorem chain_le {K : Fg} {r r' : R2} {g g' : D → D → Option D} {oa ob oc : Opd} (hk : Ok2 K r g) (hk' : Ok2 K r' g') : ∀ σ H Q, tD K (eChain g g' oa ob oc) σ H Q → tChain r r' (tO K oa) (tO K ob) (tO K oc) σ H Q := fun σ H Q ⟨B, F, env, d, env', S, ef, k⟩ => by
  obtain ⟨⟨u, e1⟩, q1, ef⟩ := bd ef
  obtain ⟨⟨w, e2⟩, q2, ef⟩ := bd ef
  obtain ⟨x, q3, ef⟩ := bd ef
  obtain ⟨y, q4, ef⟩ := bd ef
  obtain ⟨d', q5, ef⟩ := bd ef
  refine ⟨B, F, env, u, e1, S, q1, fun v F1 H1 S1 s1 h1 => ⟨B, F1, e1, w, e2, S1, q2, fun v2 F2 H2 S2 s2 h2 => hk S2 ((h1.mono s2).bv S2 q3) (h2.bv S2 q4) q5 fun v' F' H' S' s' h' => ?_⟩⟩
  cases d' <;> first | (cases ef; done) | skip
  rename_i t
  refine ⟨t, h'.bool_inv, ?_⟩
  cases t with
  | false =>
    rw [if_neg Bool.false_ne_true]
    cases ef
    exact k _ F' H' S' ((s1.trans s2).trans s') (.bl false)
  | true =>
    rw [if_pos rfl]
    obtain ⟨⟨z, e3⟩, q6, ef⟩ := bd ef
    obtain ⟨y', q7, ef⟩ := bd ef
    obtain ⟨w', q8, ef⟩ := bd ef
    obtain ⟨d', q9, ef⟩ := bd ef
    cases ef
    exact ⟨B, F', e2, z, _, S', q6, fun v3 F3 H3 S3 s3 h3 => hk' S3 (((h2.mono s').mono s3).bv S3 q7) (h3.bv S3 q8) q9 fun v4 F4 H4 S4 s4 h4 => k v4 F4 H4 S4 ((((s1.trans s2).trans s').trans s3).trans s4) h4⟩
theorem de_chain {op op' : CmpOp} {r r' : R2} {g g' : D → D → Option D} {oa ob oc : Opd} (ho : OpR X (compareOp op) r) (hk : Ok2 X.K r g) (ho' : OpR X (compareOp op') r') (hk' : Ok2 X.K r' g') (ha : PE X a (tO X.K oa)) (hb : PE X b (tO X.K ob)) (hc : PE X c (tO X.K oc))
    (hm : lastMarks [op, op'] [b, c] = false := by with_unfolding_all rfl) : PE X (.Compare a [op, op'] [b, c] pos) (tD X.K (eChain g g' oa ob oc)) := PEi (pe_chain ho ho' ha hb hc hm) (chain_le hk hk')
theorem dt_chain {op op' : CmpOp} {r r' : R2} {g g' : D → D → Option D} {oa ob oc : Opd} (ho : OpR X (compareOp op) r) (hk : Ok2 X.K r g) (ho' : OpR X (compareOp op') r') (hk' : Ok2 X.K r' g') (ha : PE X a (tO X.K oa)) (hb : PE X b (tO X.K ob)) (hc : PE X c (tO X.K oc))
    (hm : lastMarks [op, op'] [b, c] = false := by with_unfolding_all rfl) : PT X (.Compare a [op, op'] [b, c] pos) (tT X.K (bD (eChain g g' oa ob oc))) :=
  PTi (pt_chain ho ho' ha hb hc hm) fun σ H Q ⟨B, F, env, b, env', S, ef, k⟩ => chain_le hk hk' σ H _ ⟨B, F, env, .bool b, env', S, bD_inv ef, fun v F' H' S' s h => ⟨b, h.bool_inv, k F' H' S' s⟩⟩
theorem dw_and1 {f : Bf} (ha : PT X a (tT X.K f)) : PW X (.BoolOp .And [a] pos) (tT X.K f) := pw_and1 ha
theorem dw_or1 {f : Bf} (ha : PT X a (tT X.K f)) : PW X (.BoolOp .Or [a] pos) (tT X.K f) := pw_or1 ha
theorem dw_and {f g : Bf} (ha : PT X a (tT X.K f)) (hb : PW X (.BoolOp .And (b :: rest) pos) (tT X.K g)) : PW X (.BoolOp .And (a :: b :: rest) pos) (tT X.K (bAnd f g)) :=
  PWi (pw_and ha hb) fun σ H Q ⟨B, F, env, b, env', S, ef, k⟩ => by
    obtain ⟨⟨c, e1⟩, q1, ef⟩ := bd ef
    refine ⟨B, F, env, c, e1, S, q1, fun F1 H1 S1 s1 => ?_⟩
    cases c with
    | true =>
      rw [if_pos rfl]
      rw [if_pos rfl] at ef
      exact ⟨B, F1, e1, b, env', S1, ef, fun F2 H2 S2 s2 => k F2 H2 S2 (s1.trans s2)⟩
    | false =>
      rw [if_neg Bool.false_ne_true]
      rw [if_neg Bool.false_ne_true] at ef
      cases ef
      exact k F1 H1 S1 s1
theorem dw_or {f g : Bf} (ha : PT X a (tT X.K f)) (hb : PW X (.BoolOp .Or (b :: rest) pos) (tT X.K g)) : PW X (.BoolOp .Or (a :: b :: rest) pos) (tT X.K (bOr f g)) :=
  PWi (pw_or ha hb) fun σ H Q ⟨B, F, env, b, env', S, ef, k⟩ => by
    obtain ⟨⟨c, e1⟩, q1, ef⟩ := bd ef
    refine ⟨B, F, env, c, e1, S, q1, fun F1 H1 S1 s1 => ?_⟩
    cases c with
    | false =>
      rw [if_neg Bool.false_ne_true]
      rw [if_neg Bool.false_ne_true] at ef
      exact ⟨B, F1, e1, b, env', S1, ef, fun F2 H2 S2 s2 => k F2 H2 S2 (s1.trans s2)⟩
    | true =>
      rw [if_pos rfl]
      rw [if_pos rfl] at ef
      cases ef
      exact k F1 H1 S1 s1
theorem dt_not {f : Bf} (ha : PT X a (tT X.K f)) : PT X (.UnaryOp .Not a pos) (tT X.K (bNot f)) :=
  PTi (pt_not ha) fun σ H Q ⟨B, F, env, b, env', S, ef, k⟩ => by
    obtain ⟨⟨c, e1⟩, q1, ef⟩ := bd ef
    cases ef
    exact ⟨B, F, env, c, _, S, q1, k⟩
/-! .. as values -/
theorem de_one {op : BoolOp} {f : Df} (h : PE X a (tD X.K f)) : PE X (.BoolOp op [a] pos) (tD X.K f) := pe_one h
theorem de_and {f g : Df} (ha : PE X a (tD X.K f)) (hb : PE X (.BoolOp .And (b :: rest) pos) (tD X.K g)) : PE X (.BoolOp .And (a :: b :: rest) pos) (tD X.K (eAnd f g)) :=
  PEi (pe_and ha hb) fun σ H Q ⟨B, F, env, d, env', S, ef, k⟩ => by
    obtain ⟨⟨c, e1⟩, q1, ef⟩ := bd ef
    refine ⟨B, F, env, .bool c, e1, S, bD_inv q1, fun v F1 H1 S1 s1 h1 => ⟨c, h1.bool_inv, ?_⟩⟩
    cases c with
    | true =>
      rw [if_pos rfl]
      rw [if_pos rfl] at ef
      exact ⟨B, F1, e1, d, env', S1, ef, fun v2 F2 H2 S2 s2 h2 => k v2 F2 H2 S2 (s1.trans s2) h2⟩
    | false =>
      rw [if_neg Bool.false_ne_true]
      rw [if_neg Bool.false_ne_true] at ef
      cases ef
      exact k _ F1 H1 S1 s1 (.bl false)
theorem de_or {f g : Df} (ha : PE X a (tD X.K f)) (hb : PE X (.BoolOp .Or (b :: rest) pos) (tD X.K g)) : PE X (.BoolOp .Or (a :: b :: rest) pos) (tD X.K (eOr f g)) :=
  PEi (pe_or ha hb) fun σ H Q ⟨B, F, env, d, env', S, ef, k⟩ => by
    obtain ⟨⟨c, e1⟩, q1, ef⟩ := bd ef
    refine ⟨B, F, env, .bool c, e1, S, bD_inv q1, fun v F1 H1 S1 s1 h1 => ⟨c, h1.bool_inv, ?_⟩⟩
    cases c with
    | false =>
      rw [if_neg Bool.false_ne_true]
      rw [if_neg Bool.false_ne_true] at ef
      exact ⟨B, F1, e1, d, env', S1, ef, fun v2 F2 H2 S2 s2 h2 => k v2 F2 H2 S2 (s1.trans s2) h2⟩
    | true =>
      rw [if_pos rfl]
      rw [if_pos rfl] at ef
      cases ef
      exact k _ F1 H1 S1 s1 (.bl true)
theorem de_not {f : Df} (ha : PE X a (tD X.K f)) : PE X (.UnaryOp .Not a pos) (tD X.K (eNot f)) :=
  PEi (pe_not ha) fun σ H Q ⟨B, F, env, d, env', S, ef, k⟩ => by
    obtain ⟨⟨c, e1⟩, q1, ef⟩ := bd ef
    cases ef
    exact ⟨B, F, env, .bool c, _, S, bD_inv q1, fun v F1 H1 S1 s1 h1 => ⟨c, h1.bool_inv, k _ F1 H1 S1 s1 (.bl _)⟩⟩
theorem de_if {t : Bf} {f g : Df} (hc : PT X c (tT X.K t)) (ha : PE X a (tD X.K f)) (hb : PE X b (tD X.K g)) : PE X (.IfExp c a b pos) (tD X.K (eIf t f g)) :=
  PEi (pe_ifExp hc ha hb) fun σ H Q ⟨B, F, env, d, env', S, ef, k⟩ => by
    obtain ⟨⟨c, e1⟩, q1, ef⟩ := bd ef
    refine ⟨B, F, env, c, e1, S, q1, fun F1 H1 S1 s1 => ?_⟩
    cases c with
    | true =>
      rw [if_pos rfl]
      rw [if_pos rfl] at ef
      exact ⟨B, F1, e1, d, env', S1, ef, fun v2 F2 H2 S2 s2 h2 => k v2 F2 H2 S2 (s1.trans s2) h2⟩
    | false =>
      rw [if_neg Bool.false_ne_true]
      rw [if_neg Bool.false_ne_true] at ef
      exact ⟨B, F1, e1, d, env', S1, ef, fun v2 F2 H2 S2 s2 h2 => k v2 F2 H2 S2 (s1.trans s2) h2⟩
end

/-! ### names are stored -/
/-- a name that may be stored: none of the caller's own -/
def mayPut : Option Sv → Bool
  | some (.pw _) => false
  | some _ => true
  | none => false
def put (i : Nat) (x : Sv) (env : En) : Option En := if mayPut env[i]? = true then some (env.set i x) else none
theorem put_inv {i : Nat} {x : Sv} {env e : En} (h : put i x env = some e) : i < env.length ∧ (∀ d, env[i]? ≠ some (.pw d)) ∧ e = env.set i x := by
  unfold put at h
  split at h
  · rename_i m
    cases h
    cases q : env[i]? with
    | none => rw [q] at m; cases m
    | some z =>
      refine ⟨(List.getElem?_eq_some_iff.mp q).1, fun d z' => ?_, rfl⟩
      cases z'
      rw [q] at m
      cases m
  · cases h
section
variable {K : Fg} {B : Bs} {F H : Hp} {σ : L2.St} {env : En}
theorem set_other {i j : Nat} {x y : Sv} (hi : i < env.length) (q : (env.set i x)[j]? = some y) : (j = i ∧ y = x) ∨ (j ≠ i ∧ env[j]? = some y) := by
  by_cases hj : j = i
  · subst hj
    rw [List.getElem?_set_self hi] at q
    cases q
    exact .inl ⟨rfl, rfl⟩
  · rw [List.getElem?_set_ne (Ne.symm hj)] at q
    exact .inr ⟨hj, q⟩
theorem sset_other {σ : L2.St} {i j : Nat} {x : Option V} (hj : j ≠ i) : (σ.set i x)[j]? = σ[j]? := List.getElem?_set_ne (Ne.symm hj)
theorem Sl.set (S : Sl K B F H σ env) {i : Nat} {v : V} {d : D} (hi : i < env.length) (np : ∀ d, env[i]? ≠ some (.pw d)) (hd : Dt K F v d) : Sl K B F H (σ.set i (some v)) (env.set i (.fz d)) := by
  have hs : i < σ.length := S.len ▸ hi
  have ow' : ∀ {j : Nat} {x : D}, IsOw (env.set i (.fz d)) j x → j ≠ i ∧ IsOw env j x := fun {j x} q => by
    rcases q with q | q
    · rcases set_other hi q with ⟨_, z⟩ | ⟨a, b⟩
      · cases z
      · exact ⟨a, .inl b⟩
    · rcases set_other hi q with ⟨_, z⟩ | ⟨a, b⟩
      · cases z
      · exact ⟨a, .inr b⟩
  refine ⟨S.fh, by simpa using S.len, fun j x q => ?_, fun j x q => ?_, fun j k x y p a b c d => ?_, fun q hq => ?_, S.f0, S.nw, S.kp, S.lc, fun q hq => ?_⟩
  · rcases set_other hi q with ⟨rfl, z⟩ | ⟨a, b⟩
    · cases z
      exact ⟨v, by rw [List.getElem?_set_self hs], hd⟩
    · rw [sset_other a]
      exact S.fz j x b
  · obtain ⟨hj, q⟩ := ow' q
    rw [sset_other hj]
    exact S.own j x q
  · obtain ⟨hj, a⟩ := ow' a
    obtain ⟨hk, b⟩ := ow' b
    rw [sset_other hj] at c
    rw [sset_other hk] at d
    exact S.ap j k x y p a b c d
  · obtain ⟨⟨x, hx⟩, h2⟩ := S.pm q hq
    have : q.1 ≠ i := by
      rintro z
      rw [z] at hx
      exact np x hx
    rw [List.getElem?_set_ne (Ne.symm this), sset_other this]
    exact ⟨⟨x, hx⟩, h2⟩
  · obtain ⟨g1, g2, g3, g4⟩ := S.hx q hq
    exact ⟨g1, g2, g3, fun j x h => by
      obtain ⟨hj, h⟩ := ow' h
      rw [sset_other hj]
      exact g4 j x h⟩
theorem Sl.setO (S : Sl K B F H σ env) {i : Nat} {p : Addr} {d : D} (hi : i < env.length) (np : ∀ d, env[i]? ≠ some (.pw d)) (n : F p = none) (n0 : B.H0 p = none) (no : ∀ j e, IsOw env j e → σ[j]? ≠ some (some (.ref p))) (nx : ∀ q ∈ B.X, q.1 ≠ p) (ho : Own K F H p d) : Sl K B F H (σ.set i (some (.ref p))) (env.set i (.ow d)) := by
  have hs : i < σ.length := S.len ▸ hi
  have ow' : ∀ {j : Nat} {x : D}, IsOw (env.set i (.ow d)) j x → (j = i ∧ x = d) ∨ (j ≠ i ∧ IsOw env j x) := fun {j x} q => by
    rcases q with q | q
    · rcases set_other hi q with ⟨a, z⟩ | ⟨a, b⟩
      · cases z; exact .inl ⟨a, rfl⟩
      · exact .inr ⟨a, .inl b⟩
    · rcases set_other hi q with ⟨_, z⟩ | ⟨a, b⟩
      · cases z
      · exact .inr ⟨a, .inr b⟩
  refine ⟨S.fh, by simpa using S.len, fun j x q => ?_, fun j x q => ?_, fun j k x y p' a b c d => ?_, fun q hq => ?_, S.f0, S.nw, S.kp, S.lc, fun q hq => ?_⟩
  · rcases set_other hi q with ⟨rfl, z⟩ | ⟨a, b⟩
    · cases z
    · rw [sset_other a]
      exact S.fz j x b
  · rcases ow' q with ⟨rfl, rfl⟩ | ⟨hj, q⟩
    · exact ⟨p, by rw [List.getElem?_set_self hs], n, ho, .inl n0⟩
    · rw [sset_other hj]
      exact S.own j x q
  · rcases ow' a with ⟨ha, _⟩ | ⟨hj, a⟩
    · rcases ow' b with ⟨hb, _⟩ | ⟨hk, b⟩
      · rw [ha, hb]
      · rw [sset_other hk] at d
        rw [ha, List.getElem?_set_self hs] at c
        cases c
        exact absurd d (no k y b)
    · rcases ow' b with ⟨hb, _⟩ | ⟨hk, b⟩
      · rw [sset_other hj] at c
        rw [hb, List.getElem?_set_self hs] at d
        cases d
        exact absurd c (no j x a)
      · rw [sset_other hj] at c
        rw [sset_other hk] at d
        exact S.ap j k x y p' a b c d
  · obtain ⟨⟨x, hx⟩, h2⟩ := S.pm q hq
    have : q.1 ≠ i := by
      rintro z
      rw [z] at hx
      exact np x hx
    rw [List.getElem?_set_ne (Ne.symm this), sset_other this]
    exact ⟨⟨x, hx⟩, h2⟩
  · obtain ⟨g1, g2, g3, g4⟩ := S.hx q hq
    refine ⟨g1, g2, g3, fun j x h => ?_⟩
    rcases ow' h with ⟨rfl, _⟩ | ⟨hj, h⟩
    · rw [List.getElem?_set_self hs]
      intro z
      cases z
      exact nx q hq rfl
    · rw [sset_other hj]
      exact g4 j x h
/-- a name's own object is changed -/
theorem Sl.chg (S : Sl K B F H σ env) {i : Nat} {p : Addr} {d d' : D} {o : HO} {x : Sv} (q : IsOw env i d) (hp : σ[i]? = some (some (.ref p))) (hx : (env[i]? = some (.ow d) ∧ x = .ow d') ∨ (env[i]? = some (.pw d) ∧ x = .pw d')) (ho : Own K F (upd H p o) p d') : Sl K B F (upd H p o) σ (env.set i x) := by
  obtain ⟨p', h1, h2, h3, h4⟩ := S.own i d q
  rw [hp] at h1; cases h1
  obtain ⟨o', ho', _⟩ := h3.some
  have hi : i < env.length := by
    rcases q with q | q <;> exact (List.getElem?_eq_some_iff.mp q).1
  have ow' : ∀ {j : Nat} {y : D}, IsOw (env.set i x) j y → (j = i ∧ y = d') ∨ (j ≠ i ∧ IsOw env j y) := fun {j y} z => by
    rcases z with z | z
    · rcases set_other hi z with ⟨a, w⟩ | ⟨a, b⟩
      · rcases hx with ⟨_, hx⟩ | ⟨_, hx⟩
        · rw [hx] at w; cases w; exact .inl ⟨a, rfl⟩
        · rw [hx] at w; cases w
      · exact .inr ⟨a, .inl b⟩
    · rcases set_other hi z with ⟨a, w⟩ | ⟨a, b⟩
      · rcases hx with ⟨_, hx⟩ | ⟨_, hx⟩
        · rw [hx] at w; cases w
        · rw [hx] at w; cases w; exact .inl ⟨a, rfl⟩
      · exact .inr ⟨a, .inr b⟩
  have owI : ∀ {j : Nat} {y : D}, IsOw (env.set i x) j y → ∃ z, IsOw env j z := fun {j y} z => by
    rcases ow' z with ⟨rfl, _⟩ | ⟨_, b⟩
    · exact ⟨_, q⟩
    · exact ⟨_, b⟩
  refine ⟨fun a u e => ?_, by simpa using S.len, fun j y z => ?_, fun j y z => ?_, fun j k y w p' a b c e => ?_, fun r hr => ?_, S.f0, S.nw, fun r u a b c => ?_, fun r hr => ?_, fun r hr => ?_⟩
  · have ne : a ≠ p := by
      rintro rfl
      rw [h2] at e; cases e
    rw [upd_ne ne]
    exact S.fh a u e
  · rcases set_other hi z with ⟨_, w⟩ | ⟨a, b⟩
    · rcases hx with ⟨_, hx⟩ | ⟨_, hx⟩ <;> (rw [hx] at w; cases w)
    · exact S.fz j y b
  · rcases ow' z with ⟨rfl, rfl⟩ | ⟨hj, z⟩
    · exact ⟨p, hp, h2, ho, h4⟩
    · obtain ⟨r, g1, g2, g3, g4⟩ := S.own j y z
      have ne : r ≠ p := by
        rintro rfl
        exact hj (S.ap j i y d r z q g1 hp)
      exact ⟨r, g1, g2, g3.mono (Sub.refl _) fun u hu => by rw [upd_ne ne]; exact hu, g4⟩
  · obtain ⟨_, a⟩ := owI a
    obtain ⟨_, b⟩ := owI b
    exact S.ap j k _ _ p' a b c e
  · obtain ⟨⟨y, hy⟩, h5⟩ := S.pm r hr
    refine ⟨?_, h5⟩
    by_cases e : r.1 = i
    · rcases hx with ⟨g, _⟩ | ⟨_, hx⟩
      · rw [e, g] at hy; cases hy
      · exact ⟨d', by rw [e, List.getElem?_set_self hi, hx]⟩
    · exact ⟨y, by rw [List.getElem?_set_ne (Ne.symm e)]; exact hy⟩
  · have ne : r ≠ p := by
      rintro rfl
      rcases h4 with h4 | ⟨j, hj⟩
      · rw [h4] at a; cases a
      · exact b j hj
    rw [upd_ne ne]
    exact S.kp r u a b c
  · by_cases e : r = p
    · subst e; rw [upd_same]; exact fun z => nomatch z
    · rw [upd_ne e]; exact S.lc r hr
  · obtain ⟨g1, g2, g3, g4⟩ := S.hx r hr
    have ne : r.1 ≠ p := fun z => g4 i d q (by rw [z]; exact hp)
    exact ⟨by rw [upd_ne ne]; exact g1, g2, g3, fun j y h => by
      obtain ⟨_, h⟩ := owI h
      exact g4 j _ h⟩
end

/-! ### statements -/
inductive Rs where
  | nx (e : En) | bk (e : En) | ct (e : En) | rt (d : D) (e : En) | rn (d : D) (e : En)
abbrev Sf := En → Option Rs
def EndOk (K : Fg) (B : Bs) (F : Hp) (E : Ends) : Rs → Prop
  | .nx e => ∀ σ' F' H', Sl K B F' H' σ' e → Sub F F' → E.nx σ' H'
  | .bk e => ∀ σ' F' H', Sl K B F' H' σ' e → Sub F F' → E.bk σ' H'
  | .ct e => ∀ σ' F' H', Sl K B F' H' σ' e → Sub F F' → E.ct σ' H'
  | .rt d e => ∀ v σ' F' H', Sl K B F' H' σ' e → Sub F F' → Dt K F' v d → E.rt v H'
  | .rn d e => ∀ p σ' F' H', Sl K B F' H' σ' e → Sub F F' → F' p = none → B.H0 p = none → Own K F' H' p d → E.rt (.ref p) H'
theorem EndOk.mono {K : Fg} {B : Bs} {F G : Hp} {E : Ends} {r : Rs} (h : EndOk K B F E r) (s : Sub F G) : EndOk K B G E r := by
  cases r with
  | nx e => exact fun σ' F' H' S s' => h σ' F' H' S (s.trans s')
  | bk e => exact fun σ' F' H' S s' => h σ' F' H' S (s.trans s')
  | ct e => exact fun σ' F' H' S s' => h σ' F' H' S (s.trans s')
  | rt d e => exact fun v σ' F' H' S s' => h v σ' F' H' S (s.trans s')
  | rn d e => exact fun p σ' F' H' S s' => h p σ' F' H' S (s.trans s')
def tS (K : Fg) (f : Sf) : TS := fun E σ H => ∃ B F env r, Sl K B F H σ env ∧ f env = some r ∧ EndOk K B F E r
def sNx : Sf := fun env => some (.nx env)
def sq (f g : Sf) : Sf := fun env => (f env).bind fun r => match r with
  | .nx e => g e
  | r => some r
def sIf (c : Bf) (f g : Sf) : Sf := fun env => (c env).bind fun r => if r.1 = true then f r.2 else g r.2
def sSet (i : Nat) (f : Df) : Sf := fun env => (f env).bind fun r => (put i (.fz r.1) r.2).bind fun e => some (.nx e)
def sSetN (i : Nat) (f : Df) : Sf := fun env => (f env).bind fun r => (put i (.ow r.1) r.2).bind fun e => some (.nx e)
def sDrop (f : Df) : Sf := fun env => (f env).bind fun r => some (.nx r.2)
def sRet (f : Df) : Sf := fun env => (f env).bind fun r => some (.rt r.1 r.2)
def sRetN (f : Df) : Sf := fun env => (f env).bind fun r => some (.rn r.1 r.2)
/-- one's own object is handed back -/
def sRetO (i : Nat) : Sf := fun env => match env[i]? with
  | some (.ow d) => some (.rn d env)
  | _ => none
section
variable {X : Cx} {e : Expr} {st : Stmt} {rest : List Stmt} {pos : Pos}
theorem ds_nil : PSs X [] (tS X.K sNx) := PSsi pss_nil fun E σ H ⟨B, F, env, r, S, ef, k⟩ => by
  cases ef
  exact k σ F H S (Sub.refl F)
theorem ds_cons {f g : Sf} (h1 : PS X st (tS X.K f)) (h2 : PSs X rest (tS X.K g)) : PSs X (st :: rest) (tS X.K (sq f g)) := PSsi (pss_cons h1 h2) fun E σ H ⟨B, F, env, r, S, ef, k⟩ => by
  obtain ⟨r1, q, ef⟩ := bd ef
  refine ⟨B, F, env, r1, S, q, ?_⟩
  cases r1 with
  | nx e1 => exact fun σ' F' H' S' s' => ⟨B, F', e1, r, S', ef, k.mono s'⟩
  | bk e1 => cases ef; exact k
  | ct e1 => cases ef; exact k
  | rt d e1 => cases ef; exact k
  | rn d e1 => cases ef; exact k
theorem ds_one {f : Sf} (h1 : PS X st (tS X.K f)) : PSs X [st] (tS X.K f) := pss_one h1
theorem dS_if {c : Expr} {a b : List Stmt} {t : Bf} {f g : Sf} (hc : PT X c (tT X.K t)) (ha : PSs X a (tS X.K f)) (hb : PSs X b (tS X.K g)) : PS X (.If c a b pos) (tS X.K (sIf t f g)) := PSi (ps_if hc ha hb) fun E σ H ⟨B, F, env, r, S, ef, k⟩ => by
  obtain ⟨⟨c, e1⟩, q, ef⟩ := bd ef
  refine ⟨B, F, env, c, e1, S, q, fun F1 H1 S1 s1 => ?_⟩
  cases c with
  | true =>
    rw [if_pos rfl]
    rw [if_pos rfl] at ef
    exact ⟨B, F1, e1, r, S1, ef, k.mono s1⟩
  | false =>
    rw [if_neg Bool.false_ne_true]
    rw [if_neg Bool.false_ne_true] at ef
    exact ⟨B, F1, e1, r, S1, ef, k.mono s1⟩
theorem dS_pass : PS X (.Pass pos) (tS X.K sNx) := PSi ps_pass fun E σ H ⟨B, F, env, r, S, ef, k⟩ => by
  cases ef
  exact k σ F H S (Sub.refl F)
def sBk : Sf := fun env => some (.bk env)
def sCt : Sf := fun env => some (.ct env)
theorem dS_break : PS X (.Break pos) (tS X.K sBk) := PSi ps_break fun E σ H ⟨B, F, env, r, S, ef, k⟩ => by
  cases ef
  exact k σ F H S (Sub.refl F)
theorem dS_continue : PS X (.Continue pos) (tS X.K sCt) := PSi ps_continue fun E σ H ⟨B, F, env, r, S, ef, k⟩ => by
  cases ef
  exact k σ F H S (Sub.refl F)
theorem dS_drop {f : Df} (he : PE X e (tD X.K f)) (hs : swapsWith e none pos.line X.env = pure false := by rfl) : PS X (.Expr e pos) (tS X.K (sDrop f)) := PSi (ps_expr he hs) fun E σ H ⟨B, F, env, r, S, ef, k⟩ => by
  obtain ⟨⟨d, e1⟩, q, ef⟩ := bd ef
  cases ef
  exact ⟨B, F, env, d, e1, S, q, fun v F' H' S' s' _ => k σ F' H' S' s'⟩
theorem dS_ret {f : Df} (he : PE X e (tD X.K f)) : PS X (.Return (some e) pos) (tS X.K (sRet f)) := PSi (ps_ret he) fun E σ H ⟨B, F, env, r, S, ef, k⟩ => by
  obtain ⟨⟨d, e1⟩, q, ef⟩ := bd ef
  cases ef
  exact ⟨B, F, env, d, e1, S, q, fun v F' H' S' s' hd => k v σ F' H' S' s' hd⟩
theorem dS_retN {f : Df} (he : PE X e (tN X.K f)) : PS X (.Return (some e) pos) (tS X.K (sRetN f)) := PSi (ps_ret he) fun E σ H ⟨B, F, env, r, S, ef, k⟩ => by
  obtain ⟨⟨d, e1⟩, q, ef⟩ := bd ef
  cases ef
  exact ⟨B, F, env, d, e1, S, q, fun p F' H' S' s' n n0 _ _ ho => k p σ F' H' S' s' n n0 ho⟩
theorem dS_retO (i : Nat) {x : Str} {p : Pos} (hN : X.N[i]? = some x := by rfl) (hv : Vis X.env.scope x := by first | exact Or.inl rfl | exact Or.inr (Or.inl rfl) | exact Or.inr (Or.inr rfl)) (hd : (x == ("__debug__" : Str)) = false := by decide)
    (hcd : (x == ("__classdict__" : Str)) = false := by decide) : PS X (.Return (some (.Name x p)) pos) (tS X.K (sRetO i)) := PSi (ps_ret (pe_var hN hv hd hcd)) fun E σ H ⟨B, F, env, r, S, ef, k⟩ => by
  unfold sRetO at ef
  split at ef
  · rename_i d q
    cases ef
    obtain ⟨p, h1, h2, h3, h4⟩ := S.own i d (.inl q)
    refine ⟨_, h1, k p σ F H S (Sub.refl F) h2 ?_ h3⟩
    rcases h4 with h4 | ⟨j, hj⟩
    · exact h4
    · obtain ⟨⟨d', hd'⟩, hs⟩ := S.pm (j, p) hj
      have := S.ap i j d d' p (.inl q) (.inr hd') h1 hs
      subst this
      rw [q] at hd'; cases hd'
  · cases ef
theorem dS_retNone : PS X (.Return none pos) (tS X.K (sRet (eC .none))) := PSi ps_retN fun E σ H ⟨B, F, env, r, S, ef, k⟩ => by
  cases ef
  exact k _ σ F H S (Sub.refl F) .non
theorem dS_set {i : Nat} {x : Str} {f : Df} {pos' : Pos} (hN : X.N.Nodup) (he : PE X e (tD X.K f)) (hi : X.N[i]? = some x := by rfl) (hx : Loc X.env.scope x := by first | exact Or.inl rfl | exact Or.inr rfl) (hs : swapsWith e (some (.Name x pos')) pos.line X.env = pure false := by rfl) (hf : X.fn x = true ∨ X.env.scope.names.lookup x = some .local := by first | exact .inl rfl | exact .inr rfl | assumption) :
    PS X (.Assign [.Name x pos'] e pos) (tS X.K (sSet i f)) := PSi (ps_set hN hi hx he hs hf) fun E σ H ⟨B, F, env, r, S, ef, k⟩ => by
  obtain ⟨⟨d, e1⟩, q, ef⟩ := bd ef
  obtain ⟨e2, q2, ef⟩ := bd ef
  cases ef
  obtain ⟨hi', np, rfl⟩ := put_inv q2
  exact ⟨B, F, env, d, e1, S, q, fun v F' H' S' s' hd => k _ F' H' (S'.set hi' np hd) s'⟩
theorem dS_setN {i : Nat} {x : Str} {f : Df} {pos' : Pos} (hN : X.N.Nodup) (he : PE X e (tN X.K f)) (hi : X.N[i]? = some x := by rfl) (hx : Loc X.env.scope x := by first | exact Or.inl rfl | exact Or.inr rfl) (hs : swapsWith e (some (.Name x pos')) pos.line X.env = pure false := by rfl) (hf : X.fn x = true ∨ X.env.scope.names.lookup x = some .local := by first | exact .inl rfl | exact .inr rfl | assumption) :
    PS X (.Assign [.Name x pos'] e pos) (tS X.K (sSetN i f)) := PSi (ps_set hN hi hx he hs hf) fun E σ H ⟨B, F, env, r, S, ef, k⟩ => by
  obtain ⟨⟨d, e1⟩, q, ef⟩ := bd ef
  obtain ⟨e2, q2, ef⟩ := bd ef
  cases ef
  obtain ⟨hi', np, rfl⟩ := put_inv q2
  exact ⟨B, F, env, d, e1, S, q, fun p F' H' S' s' n n0 no nx ho => k _ F' H' (S'.setO hi' np n n0 no nx ho) s'⟩
end

/-! ### targets -/
abbrev Tg := D → En → Option En
/-- the slots but ts are as they were -/
def But (ts : List Nat) (σ σ' : L2.St) : Prop := σ'.length = σ.length ∧ ∀ j, j ∉ ts → σ'[j]? = σ[j]?
def gD (K : Fg) (t : Tg) (ts : List Nat) : TG := fun v σ H Q => ∃ B F env d env', Sl K B F H σ env ∧ Dt K F v d ∧ t d env = some env' ∧ ∀ σ' F' H', Sl K B F' H' σ' env' → Sub F F' → But ts σ σ' → Q σ' H'
def gsD (K : Fg) (t : List D → En → Option En) (ts : List Nat) : TGs := fun vs σ H Q => ∃ B F env ds env', Sl K B F H σ env ∧ DtA K F vs ds ∧ t ds env = some env' ∧ ∀ σ' F' H', Sl K B F' H' σ' env' → Sub F F' → But ts σ σ' → Q σ' H'
def tgName (i : Nat) : Tg := fun d env => put i (.fz d) env
def tgsNil : List D → En → Option En := fun ds env => match ds with
  | [] => some env
  | _ => none
def tgsCons (t : Tg) (r : List D → En → Option En) : List D → En → Option En := fun ds env => match ds with
  | d :: ds => (t d env).bind fun e => r ds e
  | [] => none
def tgTup (r : List D → En → Option En) : Tg := fun d env => match d with
  | .tuple ds => r ds env
  | _ => none
section
variable {X : Cx} {e : Expr} {es : List Expr} {pos : Pos}
theorem PGi {t u : TG} (h : PG X e t) (le : ∀ v σ H Q, u v σ H Q → t v σ H Q) : PG X e u := ⟨fun pins s σ H v w Q I r q => h.run pins s σ H v w Q I r (le v σ H Q q)⟩
theorem PGsi {t u : TGs} (h : PGs X es t) (le : ∀ v σ H Q, u v σ H Q → t v σ H Q) : PGs X es u := ⟨fun pins s σ H v w Q I r q => h.run pins s σ H v w Q I r (le v σ H Q q)⟩
theorem dg_name (i : Nat) {x : Str} (hN : X.N.Nodup) (hi : X.N[i]? = some x := by rfl) (hx : Loc X.env.scope x := by first | exact Or.inl rfl | exact Or.inr rfl) (hf : X.fn x = true ∨ X.env.scope.names.lookup x = some .local := by first | exact .inl rfl | exact .inr rfl | assumption) : PG X (.Name x pos) (gD X.K (tgName i) [i]) :=
  PGi (pg_name hN hi hx hf) fun v σ H Q ⟨B, F, env, d, env', S, hd, et, k⟩ => by
    obtain ⟨hi', np, rfl⟩ := put_inv et
    exact k _ F H (S.set hi' np hd) (Sub.refl F) ⟨by simp, fun j hj => sset_other (by simpa using hj)⟩
theorem dgs_nil : PGs X [] (gsD X.K tgsNil []) := PGsi pgs_nil fun v σ H Q ⟨B, F, env, ds, env', S, hd, et, k⟩ => by
  cases hd with
  | nil => cases et; exact ⟨rfl, k σ F H S (Sub.refl F) ⟨rfl, fun _ _ => rfl⟩⟩
  | cons _ _ => cases et
theorem dgs_cons {t : Tg} {r : List D → En → Option En} {ts us : List Nat} (h1 : PG X e (gD X.K t ts)) (h2 : PGs X es (gsD X.K r us)) (hs : (assignEach (e :: es) X.env).map (·.2) = assign e X.env :: (assignEach es X.env).map (·.2) := by rfl) : PGs X (e :: es) (gsD X.K (tgsCons t r) (ts ++ us)) :=
  PGsi (pgs_cons h1 h2 hs) fun v σ H Q ⟨B, F, env, ds, env', S, hd, et, k⟩ => by
    cases hd with
    | nil => cases et
    | cons h hd =>
      obtain ⟨e1, q, et⟩ := bd et
      exact ⟨_, _, rfl, B, F, env, _, e1, S, h, q, fun σ1 F1 H1 S1 s1 b1 => ⟨B, F1, e1, _, env', S1, hd.mono s1, et, fun σ2 F2 H2 S2 s2 b2 => k σ2 F2 H2 S2 (s1.trans s2) ⟨b2.1.trans b1.1, fun j hj => (b2.2 j fun z => hj (List.mem_append_right _ z)).trans (b1.2 j fun z => hj (List.mem_append_left _ z))⟩⟩⟩
/-- how many a row of targets takes -/
def Takes' (r : List D → En → Option En) (n : Nat) : Prop := ∀ ds env e, r ds env = some e → ds.length = n
theorem takes_nil : Takes' tgsNil 0 := fun ds env e h => by
  cases ds with
  | nil => rfl
  | cons _ _ => cases h
theorem takes_cons {t : Tg} {r : List D → En → Option En} {n : Nat} (h : Takes' r n) : Takes' (tgsCons t r) (n + 1) := fun ds env e q => by
  cases ds with
  | nil => cases q
  | cons d ds =>
    obtain ⟨e1, _, q⟩ := bd q
    exact congrArg Nat.succ (h ds e1 e q)
theorem dg_tup {k n : Nat} {r : List D → En → Option En} {ts : List Nat} (hc : X.calm = true) (h : PGs X es (gsD X.K r ts)) (ht : Takes' r n)
    (hn : (assignEach es X.env).length = n := by rfl) (hst : (assignEach es X.env).findIdx? (·.1) = none := by rfl) : PG X (.Tuple es k pos) (gD X.K (tgTup r) ts) :=
  PGi (pg_tup hc h hn hst) fun v σ H Q ⟨B, F, env, d, env', S, hd, et, k⟩ => by
    unfold tgTup at et
    split at et
    · rename_i ds
      cases hd with
      | tup hq hd =>
        refine ⟨_, _, rfl, SqT.of (S.fh.tup hq), ?_, B, F, env, ds, env', S, hd, et, k⟩
        rw [hd.length]
        exact ht ds env env' et
    · cases et
/-- several names at once -/
def sUnp (t : Tg) (f : Df) : Sf := fun env => (f env).bind fun r => (t r.1 r.2).bind fun e => some (.nx e)
theorem dS_unp {tg : Expr} {t : Tg} {ts : List Nat} {f : Df} (he : PE X e (tD X.K f)) (hg : PG X tg (gD X.K t ts)) (hs : swapsWithSole [tg] e pos.line X.env = pure false := by rfl) (hw : swappedStores [tg] e X.env = pure none := by rfl)
    (h1 : (assignEach [tg] X.env).map (·.2) = [assign tg X.env] := by rfl) : PS X (.Assign [tg] e pos) (tS X.K (sUnp t f)) := PSi (ps_asg he hg hs hw h1) fun E σ H ⟨B, F, env, r, S, ef, k⟩ => by
  obtain ⟨⟨d, e1⟩, q, ef⟩ := bd ef
  obtain ⟨e2, q2, ef⟩ := bd ef
  cases ef
  exact ⟨B, F, env, d, e1, S, q, fun v F' H' S' s' hd => ⟨B, F', e1, d, e2, S', hd, q2, fun σ2 F2 H2 S2 s2 _ => k σ2 F2 H2 S2 (s'.trans s2)⟩⟩
end
end DL

/-! DLd: defs and their calls. -/
namespace DL
open PySem L2

/-- behind something that changed the objects Ch, each one's own -/
theorem Sl.after {K : Fg} {B : Bs} {F H F' H' : Hp} {σ : L2.St} {env env' : En} (S : Sl K B F H σ env) (fh : Lk F' H') (s : Sub F F') (nw : ∀ p, F p = none → F' p ≠ none → H p = none) (Ch : Addr → Prop)
    (kp : ∀ p o, H p = some o → ¬ Ch p → H' p = some o) (ln : env'.length = env.length) (hfz : ∀ (j : Nat) (d : D), env'[j]? = some (.fz d) → env[j]? = some (.fz d))
    (how : ∀ (j : Nat) (d : D), IsOw env' j d → ∃ d0, IsOw env j d0 ∧ ∀ p, σ[j]? = some (some (.ref p)) → (d = d0 ∧ ¬ Ch p) ∨ Own K F' H' p d)
    (hpw : ∀ (j : Nat) (d : D), env[j]? = some (.pw d) → ∃ d', env'[j]? = some (.pw d')) (hch : ∀ p, Ch p → (∃ j d, IsOw env j d ∧ σ[j]? = some (some (.ref p))) ∧ H' p ≠ none) : Sl K B F' H' σ env' := by
  have owF : ∀ {j : Nat} {d : D} {p : Addr}, IsOw env j d → σ[j]? = some (some (.ref p)) → F' p = none := fun {j d p} o e => by
    obtain ⟨q, h1, h2, h3, _⟩ := S.own j d o
    rw [e] at h1; cases h1
    cases q : F' p with
    | none => rfl
    | some u =>
      obtain ⟨w, hw, _⟩ := h3.some
      have := nw p h2 (by rw [q]; exact fun z => nomatch z)
      rw [this] at hw; cases hw
  refine ⟨fh, by rw [ln]; exact S.len, fun j d e => ?_, fun j d e => ?_, fun i j d e p a b c f => ?_, fun q hq => ?_, S.f0.trans s, fun p a b => ?_, fun p o a b c => ?_, fun p hp => ?_, fun q hq => ?_⟩
  · obtain ⟨v, h1, h2⟩ := S.fz j d (hfz j d e)
    exact ⟨v, h1, h2.mono s⟩
  · obtain ⟨d0, o, hd⟩ := how j d e
    obtain ⟨p, h1, h2, h3, h4⟩ := S.own j d0 o
    refine ⟨p, h1, owF o h1, ?_, h4⟩
    rcases hd p h1 with ⟨rfl, nc⟩ | h
    · exact h3.mono s fun u hu => kp p u hu nc
    · exact h
  · obtain ⟨_, a, _⟩ := how i d a
    obtain ⟨_, b, _⟩ := how j e b
    exact S.ap i j _ _ p a b c f
  · obtain ⟨⟨d, h1⟩, h2⟩ := S.pm q hq
    exact ⟨hpw _ d h1, h2⟩
  · by_cases h : F p = none
    · exact S.fresh (nw p h b)
    · exact S.nw p a h
  · refine kp p o (S.kp p o a b c) fun hc => ?_
    obtain ⟨⟨j, d, o1, o2⟩, _⟩ := hch p hc
    obtain ⟨p', h1, _, _, h4⟩ := S.own j d o1
    rw [o2] at h1; cases h1
    rcases h4 with h4 | ⟨k, hk⟩
    · rw [h4] at a; cases a
    · exact b k hk
  · by_cases hc : Ch p
    · exact (hch p hc).2
    · cases q : H p with
      | none => exact absurd q (S.lc p hp)
      | some o => rw [kp p o q hc]; exact fun z => nomatch z
  · obtain ⟨g1, g2, g3, g4⟩ := S.hx q hq
    have nc : ¬ Ch q.1 := fun hc => by
      obtain ⟨⟨j, d, o1, o2⟩, _⟩ := hch _ hc
      exact g4 j d o1 o2
    refine ⟨kp _ _ g1 nc, ?_, g3, fun j d o => ?_⟩
    · cases z : F' q.1 with
      | none => rfl
      | some u =>
        have := nw q.1 g2 (by rw [z]; exact fun w => nomatch w)
        rw [this] at g1; cases g1
    · obtain ⟨d0, o, _⟩ := how j d o
      exact g4 j d0 o
/-- behind something that changed nothing -/
theorem Sl.ext {K : Fg} {B : Bs} {F H F' H' : Hp} {σ : L2.St} {env : En} (S : Sl K B F H σ env) (fh : Lk F' H') (s : Sub F F') (nw : ∀ p, F p = none → F' p ≠ none → H p = none) (kp : ∀ p o, H p = some o → H' p = some o) : Sl K B F' H' σ env :=
  S.after fh s nw (fun _ => False) (fun p o e _ => kp p o e) rfl (fun _ _ e => e) (fun j d o => ⟨d, o, fun _ _ => .inl ⟨rfl, fun z => z⟩⟩) (fun j d e => ⟨d, e⟩) fun _ z => z.elim

/-! ### what a def promises -/
inductive ArgsOk (K : Fg) (F H : Hp) : Nat → List Bool → List V → List D → List (Nat × Addr) → Prop
  | nil {n : Nat} : ArgsOk K F H n [] [] [] []
  | fz {n : Nat} {fl : List Bool} {v : V} {vs : List V} {d : D} {ds : List D} {M : List (Nat × Addr)} : Dt K F v d → ArgsOk K F H (n + 1) fl vs ds M → ArgsOk K F H n (false :: fl) (v :: vs) (d :: ds) M
  | ow {n : Nat} {fl : List Bool} {p : Addr} {vs : List V} {d : D} {ds : List D} {M : List (Nat × Addr)} : F p = none → Own K F H p d → ArgsOk K F H (n + 1) fl vs ds M → ArgsOk K F H n (true :: fl) (.ref p :: vs) (d :: ds) ((n, p) :: M)
def entry : List Bool → List D → En
  | false :: fl, d :: ds => .fz d :: entry fl ds
  | true :: fl, d :: ds => .pw d :: entry fl ds
  | _, _ => []
def env0 (n : Nat) (fl : List Bool) (ds : List D) : En := entry fl ds ++ List.replicate (n - fl.length) .un
def slotsOf : Nat → List Bool → List Nat
  | _, [] => []
  | n, true :: fl => n :: slotsOf (n + 1) fl
  | n, false :: fl => slotsOf (n + 1) fl
def outsAt : List Nat → En → Option (List D)
  | [], _ => some []
  | i :: r, e => match e[i]? with
    | some (.pw d) => (outsAt r e).bind fun ds => some (d :: ds)
    | _ => none
def OutsOk (K : Fg) (F H : Hp) : List (Nat × Addr) → List D → Prop
  | [], [] => True
  | q :: M, d :: os => (F q.2 = none ∧ Own K F H q.2 d) ∧ OutsOk K F H M os
  | _, _ => False
/-- what a body is worth: arguments, the value and what came of the caller's objects -/
def gOf (n : Nat) (fl : List Bool) (body : Sf) (ds : List D) : Option (D × List D) := if ds.length = fl.length then (body (env0 n fl ds)).bind fun r => match r with
  | .nx e => (outsAt (slotsOf 0 fl) e).bind fun os => some (.none, os)
  | .rt d e => (outsAt (slotsOf 0 fl) e).bind fun os => some (d, os)
  | _ => none else none
def gOfN (n : Nat) (fl : List Bool) (body : Sf) (ds : List D) : Option (D × List D) := if ds.length = fl.length then (body (env0 n fl ds)).bind fun r => match r with
  | .rn d e => (outsAt (slotsOf 0 fl) e).bind fun os => some (d, os)
  | _ => none else none
def Apart (M : List (Nat × Addr)) : Prop := ∀ i j p, (i, p) ∈ M → (j, p) ∈ M → i = j
def RetOk (K : Fg) (nw : Bool) (H F' H' : Hp) (v : V) (d : D) : Prop := match nw with
  | true => ∃ p, v = .ref p ∧ F' p = none ∧ H p = none ∧ Own K F' H' p d
  | false => Dt K F' v d
def spD (K : Fg) (fl : List Bool) (nw : Bool) (g : List D → Option (D × List D)) : Sp := fun vs H Q _ => ∃ F ds d os M, Lk F H ∧ ArgsOk K F H 0 fl vs ds M ∧ Apart M ∧ g ds = some (d, os) ∧
  ∀ v F' H', Lk F' H' → Sub F F' → (∀ p, F p = none → F' p ≠ none → H p = none) → (∀ p o, H p = some o → (∀ j, (j, p) ∉ M) → H' p = some o) → OutsOk K F' H' M os → RetOk K nw H F' H' v d → Q v H'

section
variable {K : Fg} {F H : Hp}
theorem ArgsOk.len {n : Nat} {fl : List Bool} {vs : List V} {ds : List D} {M : List (Nat × Addr)} (h : ArgsOk K F H n fl vs ds M) : vs.length = fl.length ∧ ds.length = fl.length := by
  induction h with
  | nil => exact ⟨rfl, rfl⟩
  | fz _ _ ih => exact ⟨congrArg Nat.succ ih.1, congrArg Nat.succ ih.2⟩
  | ow _ _ _ ih => exact ⟨congrArg Nat.succ ih.1, congrArg Nat.succ ih.2⟩
theorem ArgsOk.slots {n : Nat} {fl : List Bool} {vs : List V} {ds : List D} {M : List (Nat × Addr)} (h : ArgsOk K F H n fl vs ds M) : M.map (·.1) = slotsOf n fl := by
  induction h with
  | nil => rfl
  | fz _ _ ih => exact ih
  | ow _ _ _ ih => exact congrArg (List.cons _) ih
def AtOk (K : Fg) (F H : Hp) (M : List (Nat × Addr)) (k : Nat) (v : V) : Sv → Prop
  | .fz d => Dt K F v d
  | .pw d => ∃ p, v = .ref p ∧ F p = none ∧ Own K F H p d ∧ (k, p) ∈ M
  | _ => False
theorem AtOk.more {M M' : List (Nat × Addr)} {k : Nat} {v : V} {x : Sv} (h : AtOk K F H M k v x) (s : ∀ q ∈ M, q ∈ M') : AtOk K F H M' k v x := by
  cases x with
  | fz d => exact h
  | pw d => obtain ⟨p, a, b, c, e⟩ := h; exact ⟨p, a, b, c, s _ e⟩
  | un => exact h
  | ow _ => exact h
theorem ArgsOk.entry {n : Nat} {fl : List Bool} {vs : List V} {ds : List D} {M : List (Nat × Addr)} (h : ArgsOk K F H n fl vs ds M) :
    (DL.entry fl ds).length = fl.length ∧ (∀ (i : Nat) (x : Sv), (DL.entry fl ds)[i]? = some x → ∃ v, vs[i]? = some v ∧ AtOk K F H M (n + i) v x) ∧ ∀ q ∈ M, ∃ (i : Nat) (d : D), q.1 = n + i ∧ (DL.entry fl ds)[i]? = some (.pw d) ∧ vs[i]? = some (.ref q.2) := by
  induction h with
  | nil => exact ⟨rfl, fun i x e => by simp [DL.entry] at e, fun q hq => nomatch hq⟩
  | fz hd _ ih =>
    obtain ⟨h1, h2, h3⟩ := ih
    refine ⟨congrArg Nat.succ h1, fun i x e => ?_, fun q hq => ?_⟩
    · cases i with
      | zero => simp [DL.entry] at e; subst e; exact ⟨_, rfl, hd⟩
      | succ i =>
        obtain ⟨v, a, b⟩ := h2 i x (by simpa [DL.entry] using e)
        exact ⟨v, by simpa using a, by rw [Nat.add_right_comm] at b; exact b⟩
    · obtain ⟨i, d, a, b, c⟩ := h3 q hq
      exact ⟨i + 1, d, by omega, by simpa [DL.entry] using b, by simpa using c⟩
  | ow n1 ho _ ih =>
    obtain ⟨h1, h2, h3⟩ := ih
    refine ⟨congrArg Nat.succ h1, fun i x e => ?_, fun q hq => ?_⟩
    · cases i with
      | zero => simp [DL.entry] at e; subst e; exact ⟨_, rfl, _, rfl, n1, ho, List.mem_cons_self⟩
      | succ i =>
        obtain ⟨v, a, b⟩ := h2 i x (by simpa [DL.entry] using e)
        exact ⟨v, by simpa using a, by rw [Nat.add_right_comm] at b; exact b.more fun q hq => List.mem_cons_of_mem _ hq⟩
    · rcases List.mem_cons.mp hq with rfl | hq
      · exact ⟨0, _, rfl, rfl, rfl⟩
      · obtain ⟨i, d, a, b, c⟩ := h3 q hq
        exact ⟨i + 1, d, by omega, by simpa [DL.entry] using b, by simpa using c⟩
theorem sl_entry {N : List Str} {fl : List Bool} {vs : List V} {ds : List D} {M : List (Nat × Addr)} (h : ArgsOk K F H 0 fl vs ds M) (fh : Lk F H) (ap : Apart M) : Sl K ⟨F, H, M, [], []⟩ F H (L2.start N vs) (env0 N.length fl ds) := by
  obtain ⟨e1, e2, e3⟩ := h.entry
  obtain ⟨l1, l2⟩ := h.len
  have look : ∀ {i : Nat} {x : Sv}, (env0 N.length fl ds)[i]? = some x → x ≠ .un → ∃ v, (L2.start N vs)[i]? = some (some v) ∧ AtOk K F H M i v x := fun {i x} e nu => by
    unfold env0 at e
    by_cases hi : i < (DL.entry fl ds).length
    · rw [List.getElem?_append_left hi] at e
      obtain ⟨v, a, b⟩ := e2 i x e
      refine ⟨v, ?_, by rw [Nat.zero_add] at b; exact b⟩
      unfold L2.start
      rw [List.getElem?_append_left (by rw [List.length_map, l1, ← e1]; exact hi), List.getElem?_map, a]
      rfl
    · rw [List.getElem?_append_right (Nat.le_of_not_lt hi), List.getElem?_replicate] at e
      split at e
      · cases e; exact absurd rfl nu
      · cases e
  have ow : ∀ {i : Nat} {d : D}, IsOw (env0 N.length fl ds) i d → ∃ p, (L2.start N vs)[i]? = some (some (.ref p)) ∧ F p = none ∧ Own K F H p d ∧ (i, p) ∈ M := fun {i d} o => by
    rcases o with o | o
    · obtain ⟨v, _, b⟩ := look o (fun z => nomatch z)
      exact b.elim
    · obtain ⟨v, a, p, rfl, b, c, e⟩ := look o (fun z => nomatch z)
      exact ⟨p, a, b, c, e⟩
  refine ⟨fh, ?_, fun i d e => look e (fun z => nomatch z), fun i d o => ?_, fun i j d e p a b c f => ?_, fun q hq => ?_, Sub.refl F, fun p a b => absurd a b, fun p o a _ _ => a, fun p hp => (nomatch hp), fun q hq => (nomatch hq)⟩
  · unfold env0 L2.start
    rw [List.length_append, List.length_append, List.length_replicate, List.length_replicate, List.length_map, e1, l1]
  · obtain ⟨p, a, b, c, e⟩ := ow o
    exact ⟨p, a, b, c, .inr ⟨i, e⟩⟩
  · obtain ⟨p1, a1, _, _, a2⟩ := ow a
    obtain ⟨p2, b1, _, _, b2⟩ := ow b
    rw [c] at a1; cases a1
    rw [f] at b1; cases b1
    exact ap i j p a2 b2
  · obtain ⟨i, d, a, b, c⟩ := e3 q hq
    rw [Nat.zero_add] at a
    have hi : i < (DL.entry fl ds).length := (List.getElem?_eq_some_iff.mp b).1
    refine ⟨⟨d, ?_⟩, ?_⟩
    · unfold env0
      rw [a, List.getElem?_append_left hi]
      exact b
    · unfold L2.start
      rw [a, List.getElem?_append_left (by rw [List.length_map, l1, ← e1]; exact hi), List.getElem?_map, c]
      rfl
theorem outs_ok {B : Bs} {F' H' : Hp} {σ : L2.St} {e : En} (S : Sl K B F' H' σ e) : ∀ {M : List (Nat × Addr)} {os : List D}, (∀ q ∈ M, q ∈ B.M) → outsAt (M.map (·.1)) e = some os → OutsOk K F' H' M os
  | [], os, _, h => by cases h; trivial
  | q :: M, os, hs, h => by
    obtain ⟨⟨d, h1⟩, h2⟩ := S.pm q (hs q List.mem_cons_self)
    have h : (match e[q.1]? with | some (.pw d) => (outsAt (M.map (·.1)) e).bind fun ds => some (d :: ds) | _ => none) = some os := h
    rw [h1] at h
    obtain ⟨ds, h3, h⟩ := bd h
    cases h
    obtain ⟨p, g1, g2, g3, _⟩ := S.own q.1 d (.inr h1)
    rw [h2] at g1; cases g1
    exact ⟨⟨g2, g3⟩, outs_ok S (fun r hr => hs r (List.mem_cons_of_mem _ hr)) h3⟩
end

/-- the body's reading from the promise -/
theorem body_of {K : Fg} {N : List Str} {fl : List Bool} {body : Sf} {vs : List V} {H : Hp} {Q : VK} {E : XK} (h : spD K fl false (gOf N.length fl body) vs H Q E) : tS K body { nx := fun _ H' => Q .non H', rt := Q } (L2.start N vs) H := by
  obtain ⟨F, ds, d, os, M, fh, ha, ap, hg, k⟩ := h
  unfold gOf at hg
  rw [if_pos ha.len.2] at hg
  obtain ⟨r, hr, hg⟩ := bd hg
  refine ⟨⟨F, H, M, [], []⟩, F, env0 N.length fl ds, r, sl_entry ha fh ap, hr, ?_⟩
  have out : ∀ {σ' : L2.St} {F' H' : Hp} {e : En}, Sl K ⟨F, H, M, [], []⟩ F' H' σ' e → outsAt (slotsOf 0 fl) e = some os → OutsOk K F' H' M os := fun S q => by
    rw [← ha.slots] at q
    exact outs_ok S (fun _ z => z) q
  cases r with
  | nx e =>
    obtain ⟨os', q, hg⟩ := bd hg
    cases hg
    exact fun σ' F' H' S s => k .non F' H' S.fh s S.nw (fun p o a b => S.kp p o a b (fun z => nomatch z)) (out S q) (Dt.non : Dt K F' .non .none)
  | rt d' e =>
    obtain ⟨os', q, hg⟩ := bd hg
    cases hg
    exact fun v σ' F' H' S s hd => k v F' H' S.fh s S.nw (fun p o a b => S.kp p o a b (fun z => nomatch z)) (out S q) hd
  | rn d' e => cases hg
  | bk e => cases hg
  | ct e => cases hg
theorem bodyN_of {K : Fg} {N : List Str} {fl : List Bool} {body : Sf} {vs : List V} {H : Hp} {Q : VK} {E : XK} (h : spD K fl true (gOfN N.length fl body) vs H Q E) : tS K body { nx := fun _ H' => Q .non H', rt := Q } (L2.start N vs) H := by
  obtain ⟨F, ds, d, os, M, fh, ha, ap, hg, k⟩ := h
  unfold gOfN at hg
  rw [if_pos ha.len.2] at hg
  obtain ⟨r, hr, hg⟩ := bd hg
  refine ⟨⟨F, H, M, [], []⟩, F, env0 N.length fl ds, r, sl_entry ha fh ap, hr, ?_⟩
  have out : ∀ {σ' : L2.St} {F' H' : Hp} {e : En}, Sl K ⟨F, H, M, [], []⟩ F' H' σ' e → outsAt (slotsOf 0 fl) e = some os → OutsOk K F' H' M os := fun S q => by
    rw [← ha.slots] at q
    exact outs_ok S (fun _ z => z) q
  cases r with
  | rn d' e =>
    obtain ⟨os', q, hg⟩ := bd hg
    cases hg
    exact fun p σ' F' H' S s n n0 ho => k (.ref p) F' H' S.fh s S.nw (fun p o a b => S.kp p o a b (fun z => nomatch z)) (out S q) ⟨p, rfl, n, n0, ho⟩
  | nx e => cases hg
  | rt d' e => cases hg
  | bk e => cases hg
  | ct e => cases hg
theorem spD_len {K : Fg} {fl : List Bool} {nw : Bool} {g : List D → Option (D × List D)} {ps : List Str} (hl : fl.length = ps.length) : ∀ vs H Q E, spD K fl nw g vs H Q E → vs.length = ps.length := fun vs H Q E h => by
  obtain ⟨F, ds, d, os, M, fh, ha, _⟩ := h
  rw [ha.len.1]
  exact hl

/-! ### calls -/
def callIn : List Bool → List OV → En → Option (List D)
  | [], [], _ => some []
  | false :: fl, .fz d :: us, e => (callIn fl us e).bind fun ds => some (d :: ds)
  | true :: fl, .sl i :: us, e => match e[i]? with
    | some (.ow d) => (callIn fl us e).bind fun ds => some (d :: ds)
    | some (.pw d) => (callIn fl us e).bind fun ds => some (d :: ds)
    | _ => none
  | _, _, _ => none
def callSl : List OV → List Nat
  | [] => []
  | .fz _ :: us => callSl us
  | .sl i :: us => i :: callSl us
def chg (i : Nat) (d : D) (e : En) : Option En := match e[i]? with
  | some (.ow _) => some (e.set i (.ow d))
  | some (.pw _) => some (e.set i (.pw d))
  | _ => none
/-- at most one object is given to be changed -/
def putBack : List Nat → List D → En → Option En
  | [], [], e => some e
  | [i], [d], e => chg i d e
  | _, _, _ => none
def eCall (fl : List Bool) (g : List D → Option (D × List D)) (os : List Opd) : Df := fun env => (evs os env).bind fun r => (callIn fl r.1 r.2).bind fun ds => (g ds).bind fun o => (putBack (callSl r.1) o.2 r.2).bind fun e => some (o.1, e)
theorem callIn_args {K : Fg} {B : Bs} {F H : Hp} {σ : L2.St} {e : En} (S : Sl K B F H σ e) : ∀ {fl : List Bool} {us : List OV} {vs : List V} {ds : List D} (n : Nat), OVA K F σ us vs → callIn fl us e = some ds →
    ∃ M, ArgsOk K F H n fl vs ds M ∧ M.length = (callSl us).length ∧ ∀ (k i : Nat), (callSl us)[k]? = some i → ∃ (m : Nat) (p : Addr) (d : D), M[k]? = some (m, p) ∧ IsOw e i d ∧ σ[i]? = some (some (.ref p))
  | [], [], [], ds, n, _, h => by cases h; exact ⟨[], .nil, rfl, fun k i z => by simp [callSl] at z⟩
  | false :: fl, .fz d :: us, v :: vs, ds, n, ho, h => by
    obtain ⟨ds', q, h⟩ := bd (show (callIn fl us e).bind (fun ds => some (d :: ds)) = some ds from h)
    cases h
    obtain ⟨M, a, b, c⟩ := callIn_args S (n + 1) ho.2 q
    exact ⟨M, .fz ho.1 a, b, c⟩
  | true :: fl, .sl i :: us, v :: vs, ds, n, ho, h => by
    have hv : σ[i]? = some (some v) := ho.1
    have go : ∀ {d : D}, IsOw e i d → (callIn fl us e).bind (fun ds => some (d :: ds)) = some ds → ∃ M, ArgsOk K F H n (true :: fl) (v :: vs) ds M ∧ M.length = (callSl (.sl i :: us)).length ∧ ∀ (k j : Nat), (callSl (.sl i :: us))[k]? = some j → ∃ (m : Nat) (p : Addr) (d : D), M[k]? = some (m, p) ∧ IsOw e j d ∧ σ[j]? = some (some (.ref p)) := fun {d} hw h => by
      obtain ⟨ds', q, h⟩ := bd h
      cases h
      obtain ⟨M, a, b, c⟩ := callIn_args S (n + 1) ho.2 q
      obtain ⟨p, h1, h2, h3, _⟩ := S.own i d hw
      rw [hv] at h1; cases h1
      refine ⟨_, .ow h2 h3 a, congrArg Nat.succ b, fun k j z => ?_⟩
      cases k with
      | zero => cases z; exact ⟨n, p, d, rfl, hw, hv⟩
      | succ k => exact c k j z
    have h : (match e[i]? with | some (.ow d) => (callIn fl us e).bind fun ds => some (d :: ds) | some (.pw d) => (callIn fl us e).bind fun ds => some (d :: ds) | _ => none) = some ds := h
    split at h
    · rename_i d q; exact go (.inl q) h
    · rename_i d q; exact go (.inr q) h
    · cases h
  | [], [], _ :: _, _, _, ho, _ => ho.elim
  | [], _ :: _, _, _, _, _, h => by cases h
  | true :: _, [], _, _, _, _, h => by cases h
  | false :: _, [], _, _, _, _, h => by cases h
  | true :: _, .fz _ :: _, _, _, _, _, h => by cases h
  | false :: _, .sl _ :: _, _, _, _, _, h => by cases h
  | false :: _, .fz _ :: _, [], _, _, ho, _ => ho.elim
  | true :: _, .sl _ :: _, [], _, _, ho, _ => ho.elim
theorem putBack_inv {is : List Nat} {os : List D} {e e' : En} (h : putBack is os e = some e') : (is = [] ∧ e' = e) ∨ ∃ i d, is = [i] ∧ os = [d] ∧ chg i d e = some e' := by
  cases is with
  | nil =>
    cases os with
    | nil => cases h; exact .inl ⟨rfl, rfl⟩
    | cons _ _ => cases h
  | cons i r =>
    cases r with
    | nil =>
      cases os with
      | nil => cases h
      | cons d r =>
        cases r with
        | nil => exact .inr ⟨i, d, rfl, rfl, h⟩
        | cons _ _ => cases h
    | cons _ _ => cases os <;> cases h
/-- what is so behind the call -/
theorem Sl.called {K : Fg} {B : Bs} {F H F' H' : Hp} {σ : L2.St} {e e' : En} {us : List OV} {os : List D} {M : List (Nat × Addr)} (S : Sl K B F H σ e) (pb : putBack (callSl us) os e = some e') (ml : M.length = (callSl us).length)
    (ms : ∀ (k i : Nat), (callSl us)[k]? = some i → ∃ (m : Nat) (p : Addr) (d : D), M[k]? = some (m, p) ∧ IsOw e i d ∧ σ[i]? = some (some (.ref p)))
    (fh : Lk F' H') (s : Sub F F') (nw : ∀ p, F p = none → F' p ≠ none → H p = none) (kp : ∀ p o, H p = some o → (∀ j, (j, p) ∉ M) → H' p = some o) (ok : OutsOk K F' H' M os) : Sl K B F' H' σ e' := by
  rcases putBack_inv pb with ⟨cs, he⟩ | ⟨i, d, cs, co, pb'⟩
  · subst he
    rw [cs] at ml
    have : M = [] := List.eq_nil_of_length_eq_zero ml
    subst this
    exact S.ext fh s nw fun p o h => kp p o h fun j z => nomatch z
  · subst co
    rw [cs] at ml ms
    obtain ⟨m, p, d0, m1, m2, m3⟩ := ms 0 i rfl
    obtain ⟨q, rfl⟩ : ∃ q, M = [q] := by
      cases M with
      | nil => cases ml
      | cons q r =>
        cases r with
        | nil => exact ⟨q, rfl⟩
        | cons _ _ => cases ml
    have hq : q = (m, p) := by simpa using m1
    subst hq
    obtain ⟨⟨o1, o2⟩, _⟩ := ok
    have o1 : F' p = none := o1
    have o2 : Own K F' H' p d := o2
    have hi : i < e.length := by
      rcases m2 with z | z <;> exact (List.getElem?_eq_some_iff.mp z).1
    obtain ⟨x, hx, rfl⟩ : ∃ x : Sv, ((e[i]? = some (.ow d0) ∧ x = .ow d) ∨ (e[i]? = some (.pw d0) ∧ x = .pw d)) ∧ e' = e.set i x := by
      unfold DL.chg at pb'
      rcases m2 with z | z
      · rw [z] at pb'; cases pb'; exact ⟨_, .inl ⟨z, rfl⟩, rfl⟩
      · rw [z] at pb'; cases pb'; exact ⟨_, .inr ⟨z, rfl⟩, rfl⟩
    refine S.after fh s nw (fun a => a = p) (fun a o h hn => kp a o h fun j z => hn (by cases z with | head => rfl | tail _ z => cases z)) (by simp) (fun j y z => ?_) (fun j y z => ?_) (fun j y z => ?_) fun a ha => ?_
    · rcases set_other hi z with ⟨_, w⟩ | ⟨_, b⟩
      · rcases hx with ⟨_, hx⟩ | ⟨_, hx⟩ <;> (rw [hx] at w; cases w)
      · exact b
    · by_cases hj : j = i
      · subst hj
        refine ⟨d0, m2, fun r hr => .inr ?_⟩
        rw [m3] at hr; cases hr
        have : y = d := by
          rcases z with z | z
          · rcases set_other hi z with ⟨_, w⟩ | ⟨a, _⟩
            · rcases hx with ⟨_, hx⟩ | ⟨_, hx⟩ <;> (rw [hx] at w; cases w; try rfl)
            · exact absurd rfl a
          · rcases set_other hi z with ⟨_, w⟩ | ⟨a, _⟩
            · rcases hx with ⟨_, hx⟩ | ⟨_, hx⟩ <;> (rw [hx] at w; cases w; try rfl)
            · exact absurd rfl a
        subst this
        exact o2
      · have z' : IsOw e j y := by
          rcases z with z | z
          · exact .inl (by rw [List.getElem?_set_ne (Ne.symm hj)] at z; exact z)
          · exact .inr (by rw [List.getElem?_set_ne (Ne.symm hj)] at z; exact z)
        exact ⟨y, z', fun r hr => .inl ⟨rfl, fun w => hj (S.ap j i y d0 r z' m2 hr (by rw [w]; exact m3))⟩⟩
    · by_cases hj : j = i
      · subst hj
        rcases hx with ⟨hx, _⟩ | ⟨_, hx⟩
        · rw [hx] at z; cases z
        · exact ⟨d, by rw [List.getElem?_set_self hi, hx]⟩
      · exact ⟨y, by rw [List.getElem?_set_ne (Ne.symm hj)]; exact z⟩
    · subst ha
      obtain ⟨u, hu, _⟩ := o2.some
      exact ⟨⟨i, d0, m2, m3⟩, by rw [hu]; exact fun z => nomatch z⟩
theorem apart_of {K : Fg} {B : Bs} {F H : Hp} {σ : L2.St} {e : En} {M : List (Nat × Addr)} (h : M.length ≤ 1) : Apart M := fun i j p a b => by
  cases M with
  | nil => cases a
  | cons q r =>
    cases r with
    | nil =>
      have a : (i, p) = q := by simpa using a
      have b : (j, p) = q := by simpa using b
      rw [← b] at a
      cases a; rfl
    | cons _ _ => exact absurd h (by simp)
theorem putBack_le {is : List Nat} {os : List D} {e e' : En} (h : putBack is os e = some e') : is.length ≤ 1 := by
  rcases putBack_inv h with ⟨a, _⟩ | ⟨i, d, a, _⟩ <;> (rw [a]; simp)
section
variable {X : Cx} {x : Str} {p pos : Pos} {e : Expr} {es : List Expr} {f : Addr} {fd : FuncData} {ps : List Str} {k : Nat} {fl : List Bool} {g : List D → Option (D × List D)} {os : List Opd}
theorem call_le {K : Fg} {E : XK} : ∀ σ H Q, tD K (eCall fl g os) σ H Q → tCall (spD K fl false g) [] E (tAr K os) σ H Q := fun σ H Q ⟨B, F, env, d, env', S, ef, kk⟩ => by
  obtain ⟨⟨us, e1⟩, q1, ef⟩ := bd ef
  obtain ⟨ds, q2, ef⟩ := bd ef
  obtain ⟨⟨d', os'⟩, q3, ef⟩ := bd ef
  obtain ⟨e2, q4, ef⟩ := bd ef
  cases ef
  refine ⟨B, F, env, us, e1, S, q1, fun vs F1 H1 S1 s1 h1 => ?_⟩
  obtain ⟨M, a, b, c⟩ := callIn_args S1 0 h1 q2
  rw [List.append_nil]
  exact ⟨F1, ds, _, os', M, S1.fh, a, apart_of (K := K) (B := B) (F := F) (H := H) (σ := σ) (e := e1) (by rw [b]; exact putBack_le q4), q3, fun v F' H' fh s nw kp ok hd => kk v F' H' (S1.called q4 b c fh s nw kp ok) (s1.trans s) hd⟩
theorem callN_le {K : Fg} {E : XK} : ∀ σ H Q, tN K (eCall fl g os) σ H Q → tCall (spD K fl true g) [] E (tAr K os) σ H Q := fun σ H Q ⟨B, F, env, d, env', S, ef, kk⟩ => by
  obtain ⟨⟨us, e1⟩, q1, ef⟩ := bd ef
  obtain ⟨ds, q2, ef⟩ := bd ef
  obtain ⟨⟨d', os'⟩, q3, ef⟩ := bd ef
  obtain ⟨e2, q4, ef⟩ := bd ef
  cases ef
  refine ⟨B, F, env, us, e1, S, q1, fun vs F1 H1 S1 s1 h1 => ?_⟩
  obtain ⟨M, a, b, c⟩ := callIn_args S1 0 h1 q2
  rw [List.append_nil]
  refine ⟨F1, ds, _, os', M, S1.fh, a, apart_of (K := K) (B := B) (F := F) (H := H) (σ := σ) (e := e1) (by rw [b]; exact putBack_le q4), q3, fun v F' H' fh s nw kp ok hd => ?_⟩
  obtain ⟨p, rfl, n, n0, ho⟩ := hd
  have S2 := S1.called q4 b c fh s nw kp ok
  refine kk p F' H' S2 (s1.trans s) n (S1.fresh n0) (fun i d o z => ?_) (S1.neX n0) ho
  obtain ⟨d1, o1⟩ : ∃ d1, IsOw e1 i d1 := by
    rcases putBack_inv q4 with ⟨_, he⟩ | ⟨j, d2, cs, _, q4⟩
    · subst he; exact ⟨d, o⟩
    · obtain ⟨m, p', d0, m1, m2, m3⟩ := c 0 j (by rw [cs]; rfl)
      by_cases hj : i = j
      · subst hj; exact ⟨d0, m2⟩
      · unfold DL.chg at q4
        have hji : j ≠ i := Ne.symm hj
        rcases m2 with m2 | m2
        · rw [m2] at q4; cases q4
          rcases o with o | o
          · exact ⟨d, .inl (by rw [List.getElem?_set_ne hji] at o; exact o)⟩
          · exact ⟨d, .inr (by rw [List.getElem?_set_ne hji] at o; exact o)⟩
        · rw [m2] at q4; cases q4
          rcases o with o | o
          · exact ⟨d, .inl (by rw [List.getElem?_set_ne hji] at o; exact o)⟩
          · exact ⟨d, .inr (by rw [List.getElem?_set_ne hji] at o; exact o)⟩
  exact S1.neOw n0 o1 z
theorem de_call (G : FnOk X.prog X.w X.K X.mg X.base CX0 k f fd ps (spD X.K fl false g)) (hr : Room k X.A) (hg : Gl X x) (hm : X.mg x = some (.ref f)) (hk : PySem.W.keepIn X.K (.ref f) = true) (hb : Binds X.K fd ps []) 
    (ha : PA X (e :: es) (tAr X.K os)) (hdb : (x == ("__debug__" : Str)) = false := by decide) (he : starEach (e :: es) X.env = (false, eval e X.env) :: starEach es X.env := by rfl) (hpl : (backTo pos (starEach es X.env)).any (·.1) = false := by rfl) :
    PE X (.Call (.Name x p) (e :: es) [] pos) (tD X.K (eCall fl g os)) := PEi (pe_call (E := E0) G hr hg hm hk hb .nil pass0 ha hdb he hpl) call_le
theorem de_callN (G : FnOk X.prog X.w X.K X.mg X.base CX0 k f fd ps (spD X.K fl true g)) (hr : Room k X.A) (hg : Gl X x) (hm : X.mg x = some (.ref f)) (hk : PySem.W.keepIn X.K (.ref f) = true) (hb : Binds X.K fd ps []) 
    (ha : PA X (e :: es) (tAr X.K os)) (hdb : (x == ("__debug__" : Str)) = false := by decide) (he : starEach (e :: es) X.env = (false, eval e X.env) :: starEach es X.env := by rfl) (hpl : (backTo pos (starEach es X.env)).any (·.1) = false := by rfl) :
    PE X (.Call (.Name x p) (e :: es) [] pos) (tN X.K (eCall fl g os)) := PEi (pe_call (E := E0) G hr hg hm hk hb .nil pass0 ha hdb he hpl) callN_le
end
end DL

/-! DLe: loops, comprehensions. -/
namespace DL
open PySem L2

/-! ### what is walked -/
/-- J gives out the data ds, one by one, wherever F's objects stand -/
def Walks (K : Fg) (J : It) (F : Hp) (ds : List D) : Prop := ∀ {B : Bs} {F' H : Hp} {σ : L2.St} {env : En}, Sl K B F' H σ env → Sub F F' → ∀ i : Nat,
  (∀ d, ds[i]? = some d → J.go i H ∧ ∀ x H', J.yld i H x H' → ∃ F'', Sl K B F'' H' σ env ∧ Sub F' F'' ∧ Dt K F'' x d) ∧ (ds.length = i → J.stop i H)
abbrev If := En → Option (List D × En)
def iD (K : Fg) (f : If) : TI := fun σ H R => ∃ B F env ds env', Sl K B F H σ env ∧ f env = some (ds, env') ∧ ∀ J F' H', Sl K B F' H' σ env' → Sub F F' → Walks K J F' ds → R J H'
section
variable {X : Cx} {tg e a b : Expr} {pos : Pos}
theorem PIi {t u : TI} (h : PI X tg e t) (le : ∀ σ H R, u σ H R → t σ H R) : PI X tg e u := ⟨fun pins s σ H R I q => h.run pins s σ H R I (le σ H R q)⟩
/-- the items of a list, of a tuple -/
def iL (f : Df) : If := fun env => (f env).bind fun r => match r.1 with
  | .list ds => some (ds, r.2)
  | _ => none
def iT (f : Df) : If := fun env => (f env).bind fun r => match r.1 with
  | .tuple ds => some (ds, r.2)
  | _ => none
theorem walks_list {K : Fg} {F : Hp} {a : Addr} {vs : List V} {ds : List D} (h : F a = some (.lst vs)) (hd : DtA K F vs ds) : Walks K (Itl K a) F ds := fun {B F' H σ env} S s i => by
  have hq : SqL K H a vs := SqL.of (S.fh.lst (s _ _ h))
  refine ⟨fun d e => ?_, fun hl => ⟨vs, hq, by rw [hd.length]; exact Nat.le_of_eq hl⟩⟩
  obtain ⟨v, h1, h2⟩ := hd.get e
  refine ⟨⟨vs, v, hq, h1⟩, fun x H' y => ?_⟩
  obtain ⟨rfl, y⟩ := y
  have := y vs hq
  rw [h1] at this; cases this
  exact ⟨F', S, Sub.refl _, h2.mono s⟩
theorem walks_tup {K : Fg} {F : Hp} {a : Addr} {vs : List V} {ds : List D} (h : F a = some (.tup vs)) (hd : DtA K F vs ds) : Walks K (Itt K a) F ds := fun {B F' H σ env} S s i => by
  have hq : SqT K H a vs := SqT.of (S.fh.tup (s _ _ h))
  refine ⟨fun d e => ?_, fun hl => ⟨vs, hq, by rw [hd.length]; exact Nat.le_of_eq hl⟩⟩
  obtain ⟨v, h1, h2⟩ := hd.get e
  refine ⟨⟨vs, v, hq, h1⟩, fun x H' y => ?_⟩
  obtain ⟨rfl, y⟩ := y
  have := y vs hq
  rw [h1] at this; cases this
  exact ⟨F', S, Sub.refl _, h2.mono s⟩
theorem di_list {f : Df} (h : PE X e (tD X.K f)) : PI X tg e (iD X.K (iL f)) := PIi (pi_list h) fun σ H R ⟨B, F, env, ds, env', S, ef, k⟩ => by
  obtain ⟨⟨d, e1⟩, q, ef⟩ := bd ef
  cases d <;> first | (cases ef; done) | skip
  cases ef
  refine ⟨B, F, env, _, _, S, q, fun v F' H' S' s' hd => ?_⟩
  cases hd with
  | lst hq hd => exact ⟨_, rfl, ⟨_, SqL.of (S'.fh.lst hq)⟩, k _ F' H' S' s' (walks_list hq hd)⟩
theorem di_tup {f : Df} (h : PE X e (tD X.K f)) : PI X tg e (iD X.K (iT f)) := PIi (pi_tup h) fun σ H R ⟨B, F, env, ds, env', S, ef, k⟩ => by
  obtain ⟨⟨d, e1⟩, q, ef⟩ := bd ef
  cases d <;> first | (cases ef; done) | skip
  cases ef
  refine ⟨B, F, env, _, _, S, q, fun v F' H' S' s' hd => ?_⟩
  cases hd with
  | tup hq hd => exact ⟨_, rfl, ⟨_, SqT.of (S'.fh.tup hq)⟩, k _ F' H' S' s' (walks_tup hq hd)⟩
def rng (lo : Int) (n : Nat) : List D := (List.range n).map fun (i : Nat) => .int (lo + (i : Int))
theorem rng_get {lo : Int} {n i : Nat} {d : D} (h : (rng lo n)[i]? = some d) : i < n ∧ d = .int (lo + (i : Int)) := by
  unfold rng at h
  rw [List.getElem?_map] at h
  by_cases hi : i < n
  · rw [List.getElem?_range hi] at h
    cases h
    exact ⟨hi, rfl⟩
  · rw [List.getElem?_eq_none (by simpa using hi)] at h
    cases h
theorem rng_len (lo : Int) (n : Nat) : (rng lo n).length = n := by unfold rng; rw [List.length_map, List.length_range]
theorem walks_rng {K : Fg} {F : Hp} {lo : Int} {n : Nat} : Walks K (Itr lo n) F (rng lo n) := fun {B F' H σ env} S s i => by
  refine ⟨fun d e => ?_, fun hl => by rw [rng_len] at hl; exact Nat.le_of_eq hl⟩
  obtain ⟨h1, rfl⟩ := rng_get e
  refine ⟨h1, fun x H' y => ?_⟩
  obtain ⟨rfl, rfl⟩ := y
  exact ⟨F', S, Sub.refl _, .int _⟩
/-- range(n), range(m, n) -/
def iR1 (a : Opd) : If := fun env => (evs [a] env).bind fun r => (looks r.1 r.2).bind fun ds => match ds with
  | [.int n] => if -(2 ^ 62) ≤ n ∧ n < 2 ^ 62 then some (rng 0 n.toNat, r.2) else none
  | _ => none
def iR2 (a b : Opd) : If := fun env => (evs [a, b] env).bind fun r => (looks r.1 r.2).bind fun ds => match ds with
  | [.int m, .int n] => if -(2 ^ 62) ≤ m ∧ m < 2 ^ 62 ∧ -(2 ^ 62) ≤ n ∧ n < 2 ^ 62 then some (rng m (n - m).toNat, r.2) else none
  | _ => none
theorem BvA.one {K : Fg} {F H : Hp} {vs : List V} {d : D} (h : BvA K F H vs [d]) : ∃ v, vs = [v] ∧ Bv K F H v d := by
  cases vs with
  | nil => exact h.elim
  | cons v r =>
    cases r with
    | nil => exact ⟨v, rfl, h.1⟩
    | cons _ _ => exact h.2.elim
theorem BvA.two {K : Fg} {F H : Hp} {vs : List V} {d e : D} (h : BvA K F H vs [d, e]) : ∃ v w, vs = [v, w] ∧ Bv K F H v d ∧ Bv K F H w e := by
  cases vs with
  | nil => exact h.elim
  | cons v r =>
    obtain ⟨w, rfl, q⟩ := BvA.one h.2
    exact ⟨v, w, rfl, h.1, q⟩
theorem di_range1 {p : Pos} {o : Opd} (hg : Gl X "range") (hm : X.mg "range" = none) (ha : PE X a (tO X.K o)) (hs : starEach [a] X.env = [(false, eval a X.env)] := by rfl) : PI X tg (.Call (.Name "range" p) [a] [] pos) (iD X.K (iR1 o)) :=
  PIi (pi_range1 hg hm (da_cons ha da_nil hs) hs) fun σ H R ⟨B, F, env, ds, env', S, ef, k⟩ => by
    obtain ⟨⟨us, e1⟩, q, ef⟩ := bd ef
    obtain ⟨es, q2, ef⟩ := bd ef
    split at ef
    · rename_i n
      split at ef
      · rename_i hn
        cases ef
        refine ⟨B, F, env, us, _, S, q, fun vs F' H' S' s' ho => ?_⟩
        obtain ⟨v, rfl, hv⟩ := (ho.bv S' q2).one
        exact ⟨n, by rw [hv.int_inv], hn.1, hn.2, k _ F' H' S' s' walks_rng⟩
      · cases ef
    · cases ef
theorem di_range2 {p : Pos} {o o2 : Opd} (hg : Gl X "range") (hm : X.mg "range" = none) (ha : PE X a (tO X.K o)) (hb : PE X b (tO X.K o2)) (hs : starEach [a, b] X.env = [(false, eval a X.env), (false, eval b X.env)] := by rfl) (hs2 : starEach [b] X.env = [(false, eval b X.env)] := by rfl) : PI X tg (.Call (.Name "range" p) [a, b] [] pos) (iD X.K (iR2 o o2)) :=
  PIi (pi_range2 hg hm (da_cons ha (da_cons hb da_nil hs2) (by rw [hs, hs2])) hs hs2) fun σ H R ⟨B, F, env, ds, env', S, ef, k⟩ => by
    obtain ⟨⟨us, e1⟩, q, ef⟩ := bd ef
    obtain ⟨es, q2, ef⟩ := bd ef
    split at ef
    · rename_i m n
      split at ef
      · rename_i hn
        cases ef
        refine ⟨B, F, env, us, _, S, q, fun vs F' H' S' s' ho => ?_⟩
        obtain ⟨v, w, rfl, hv, hw⟩ := (ho.bv S' q2).two
        exact ⟨m, n, by rw [hv.int_inv, hw.int_inv], ⟨hn.1, hn.2.1, hn.2.2.1, hn.2.2.2⟩, k _ F' H' S' s' walks_rng⟩
      · cases ef
    · cases ef
end

/-! ### for -/
def forD (t : Tg) (body : Sf) : List D → En → Option Rs
  | [], env => some (.nx env)
  | d :: ds, env => (t d env).bind fun e1 => (body e1).bind fun r => match r with
    | .nx e => forD t body ds e
    | .ct e => forD t body ds e
    | .bk e => some (.nx e)
    | .rt d e => some (.rt d e)
    | .rn d e => some (.rn d e)
def sFor (t : Tg) (it : If) (body : Sf) : Sf := fun env => (it env).bind fun r => forD t body r.1 r.2
section
variable {X : Cx} {tg iter : Expr} {body : List Stmt} {pos : Pos}
theorem drop_get {α : Type} {l : List α} {i : Nat} {x : α} (h : l[i]? = some x) : l.drop i = x :: l.drop (i + 1) := by
  obtain ⟨hi, e⟩ := List.getElem?_eq_some_iff.mp h
  rw [List.drop_eq_getElem_cons hi, e]
theorem dS_for {t : Tg} {ts : List Nat} {it : If} {f : Sf} (hp : PassesOwn (model X.prog X.w) X.A X.env X.xe) (hc : X.calm = true) (hi : PI X tg iter (iD X.K it)) (hg : PG X tg (gD X.K t ts)) (hb : PSs X body (tS X.K f))
    (hs : ∀ x, foldedSetIterable iter X.env x = pure x := by intro _; rfl) : PS X (.For tg iter body [] pos) (tS X.K (sFor t it f)) := PSi (ps_for hp hc hi hg hb hs) fun E σ H ⟨B, F, env, r, S, ef, k⟩ => by
  obtain ⟨⟨ds, e1⟩, q, ef⟩ := bd ef
  refine ⟨B, F, env, ds, e1, S, q, fun J F1 H1 S1 s1 W => ?_⟩
  refine ⟨fun i m σ H => m = ds.length - i ∧ i ≤ ds.length ∧ ∃ F2 env2, Sl X.K B F2 H σ env2 ∧ Sub F1 F2 ∧ forD t f (ds.drop i) env2 = some r, ⟨ds.length, by simp, Nat.zero_le _, F1, e1, S1, Sub.refl _, ef⟩, ?_⟩
  rintro i m σ2 H2 ⟨rfl, hi, F2, env2, S2, s2, ef2⟩
  obtain ⟨w1, w2⟩ := W S2 s2 i
  cases hd : ds[i]? with
  | none =>
    have hl : ds.length ≤ i := List.getElem?_eq_none_iff.mp hd
    rw [List.drop_eq_nil_of_le hl] at ef2
    cases ef2
    exact .inl ⟨w2 (Nat.le_antisymm hl hi), k σ2 F2 H2 S2 (s1.trans s2)⟩
  | some d =>
    have hlt : i < ds.length := (List.getElem?_eq_some_iff.mp hd).1
    rw [drop_get hd] at ef2
    obtain ⟨e3, q3, ef2⟩ := bd (show (t d env2).bind (fun e1 => (f e1).bind fun r => match r with
      | .nx e => forD t f (ds.drop (i + 1)) e
      | .ct e => forD t f (ds.drop (i + 1)) e
      | .bk e => some (.nx e)
      | .rt d e => some (.rt d e)
      | .rn d e => some (.rn d e)) = some r from ef2)
    obtain ⟨r1, q4, ef2⟩ := bd ef2
    obtain ⟨go, yl⟩ := w1 d hd
    refine .inr ⟨go, fun σ' H' => ∃ F2 env2, Sl X.K B F2 H' σ' env2 ∧ Sub F1 F2 ∧ forD t f (ds.drop (i + 1)) env2 = some r, fun σ' H' ⟨F3, en3, S3, s3, e3⟩ => ⟨ds.length - (i + 1), by omega, rfl, hlt, F3, en3, S3, s3, e3⟩, fun x H' y => ?_⟩
    obtain ⟨F3, S3, s3, hx⟩ := yl x H' y
    refine ⟨B, F3, env2, d, e3, S3, hx, q3, fun σ4 F4 H4 S4 s4 _ => ⟨B, F4, e3, r1, S4, q4, ?_⟩⟩
    have sub : Sub F F4 := ((s1.trans s2).trans s3).trans s4
    have sub1 : Sub F1 F4 := (s2.trans s3).trans s4
    cases r1 with
    | nx e => exact fun σ' F' H' S' s' => ⟨F', e, S', sub1.trans s', ef2⟩
    | ct e => exact fun σ' F' H' S' s' => ⟨F', e, S', sub1.trans s', ef2⟩
    | bk e => cases ef2; exact fun σ' F' H' S' s' => k σ' F' H' S' (sub.trans s')
    | rt d e => cases ef2; exact fun v σ' F' H' S' s' => k v σ' F' H' S' (sub.trans s')
    | rn d e => cases ef2; exact fun v σ' F' H' S' s' => k v σ' F' H' S' (sub.trans s')
end

/-! ### while -/
def whileD (c : Bf) (body : Sf) : Nat → En → Option Rs
  | 0, _ => none
  | n + 1, env => (c env).bind fun b => if b.1 = true then (body b.2).bind fun r => match r with
    | .nx e => whileD c body n e
    | .ct e => whileD c body n e
    | .bk e => some (.nx e)
    | .rt d e => some (.rt d e)
    | .rn d e => some (.rn d e)
    else some (.nx b.2)
section
variable {X : Cx} {c : Expr} {body : List Stmt} {pos : Pos}
theorem dS_while {n : Nat} {t : Bf} {f : Sf} (hp : PassesOwn (model X.prog X.w) X.A X.env X.xe) (hc : PT X c (tT X.K t)) (hb : PSs X body (tS X.K f)) : PS X (.While c body [] pos) (tS X.K (whileD t f n)) := PSi (ps_while hp hc hb) fun E σ H ⟨B, F, env, r, S, ef, k⟩ => by
  refine ⟨fun m σ H => ∃ F2 env2, Sl X.K B F2 H σ env2 ∧ Sub F F2 ∧ whileD t f m env2 = some r, ⟨n, F, env, S, Sub.refl _, ef⟩, ?_⟩
  rintro m σ2 H2 ⟨F2, env2, S2, s2, ef2⟩
  cases m with
  | zero => cases ef2
  | succ m =>
    obtain ⟨⟨b, e1⟩, q, ef2⟩ := bd (show (t env2).bind (fun b => if b.1 = true then (f b.2).bind fun r => match r with
      | .nx e => whileD t f m e
      | .ct e => whileD t f m e
      | .bk e => some (.nx e)
      | .rt d e => some (.rt d e)
      | .rn d e => some (.rn d e)
      else some (.nx b.2)) = some r from ef2)
    refine ⟨B, F2, env2, b, e1, S2, q, fun F3 H3 S3 s3 => ?_⟩
    cases b with
    | false =>
      rw [if_neg Bool.false_ne_true] at ef2 
      cases ef2
      exact k σ2 F3 H3 S3 (s2.trans s3)
    | true =>
      rw [if_pos rfl] at ef2
      obtain ⟨r1, q4, ef2⟩ := bd ef2
      refine ⟨fun σ' H' => ∃ F2 env2, Sl X.K B F2 H' σ' env2 ∧ Sub F F2 ∧ whileD t f m env2 = some r, fun σ' H' h => ⟨m, Nat.lt_succ_self m, h⟩, B, F3, e1, r1, S3, q4, ?_⟩
      have sub : Sub F F3 := s2.trans s3
      cases r1 with
      | nx e => exact fun σ' F' H' S' s' => ⟨F', e, S', sub.trans s', ef2⟩
      | ct e => exact fun σ' F' H' S' s' => ⟨F', e, S', sub.trans s', ef2⟩
      | bk e => cases ef2; exact fun σ' F' H' S' s' => k σ' F' H' S' (sub.trans s')
      | rt d e => cases ef2; exact fun v σ' F' H' S' s' => k v σ' F' H' S' (sub.trans s')
      | rn d e => cases ef2; exact fun v σ' F' H' S' s' => k v σ' F' H' S' (sub.trans s')
end
end DL

/-! DLf: list comprehensions. -/
namespace DL
open PySem L2

/-! ### what is held meanwhile -/
section
variable {K : Fg} {B : Bs} {F H : Hp} {σ : L2.St} {env : En}
def Bs.hold (B : Bs) (p : Addr) (o : HO) : Bs := { B with X := (p, o) :: B.X }
theorem Sl.hold (S : Sl K B F H σ env) {p : Addr} {o : HO} (h : H p = some o) (n : F p = none) (n0 : B.H0 p = none) (no : ∀ (i : Nat) (d : D), IsOw env i d → σ[i]? ≠ some (some (.ref p))) : Sl K (B.hold p o) F H σ env :=
  ⟨S.fh, S.len, S.fz, S.own, S.ap, S.pm, S.f0, S.nw, S.kp, S.lc, fun q hq => by
    rcases List.mem_cons.mp hq with rfl | hq
    · exact ⟨h, n, n0, no⟩
    · exact S.hx q hq⟩
theorem Sl.unhold {p : Addr} {o : HO} (S : Sl K (B.hold p o) F H σ env) : Sl K B F H σ env :=
  ⟨S.fh, S.len, S.fz, S.own, S.ap, S.pm, S.f0, S.nw, S.kp, S.lc, fun q hq => S.hx q (List.mem_cons_of_mem _ hq)⟩
theorem Sl.held {p : Addr} {o : HO} (S : Sl K (B.hold p o) F H σ env) : H p = some o ∧ F p = none ∧ B.H0 p = none ∧ ∀ (i : Nat) (d : D), IsOw env i d → σ[i]? ≠ some (some (.ref p)) := S.hx (p, o) List.mem_cons_self
/-- what is held is changed -/
theorem Sl.rehold {p : Addr} {o u : HO} (S : Sl K (B.hold p o) F H σ env) (nx : ∀ q ∈ B.X, q.1 ≠ p) : Sl K (B.hold p u) F (upd H p u) σ env := by
  obtain ⟨h1, h2, h3, h4⟩ := S.held
  refine ⟨fun a v e => ?_, S.len, S.fz, fun i d e => ?_, S.ap, S.pm, S.f0, S.nw, fun a v a1 a2 a3 => ?_, fun a ha => ?_, fun q hq => ?_⟩
  · have ne : a ≠ p := by rintro rfl; rw [h2] at e; cases e
    rw [upd_ne ne]; exact S.fh a v e
  · obtain ⟨q, g1, g2, g3, g4⟩ := S.own i d e
    have ne : q ≠ p := by rintro rfl; exact h4 i d e g1
    exact ⟨q, g1, g2, g3.mono (Sub.refl _) fun v hv => by rw [upd_ne ne]; exact hv, g4⟩
  · have ne : a ≠ p := by
      rintro rfl
      have a1 : B.H0 a = some v := a1
      rw [h3] at a1; cases a1
    rw [upd_ne ne]; exact S.kp a v a1 a2 a3
  · by_cases e : a = p
    · subst e; rw [upd_same]; exact fun z => nomatch z
    · rw [upd_ne e]; exact S.lc a ha
  · rcases List.mem_cons.mp hq with rfl | hq
    · exact ⟨upd_same, h2, h3, h4⟩
    · obtain ⟨g1, g2⟩ := S.hx q (List.mem_cons_of_mem _ hq)
      exact ⟨by rw [upd_ne (nx q hq)]; exact g1, g2⟩
end

/-! ### a block's own names -/
def canWipe : Option Sv → Bool
  | some .un => true
  | some (.fz _) => true
  | _ => false
def wp : List Nat → En → En
  | [], env => env
  | v :: vs, env => (wp vs env).set v .un
def wipeE (vs : List Nat) (env : En) : Option En := if (vs.all fun j => canWipe env[j]?) = true then some (wp vs env) else none
def restore (vs : List Nat) (o e : En) : En := match vs with
  | [] => e
  | v :: vs => (restore vs o e).set v (o.getD v .un)
theorem wp_len (env : En) : ∀ vs : List Nat, (wp vs env).length = env.length
  | [] => rfl
  | v :: vs => by unfold wp; rw [List.length_set, wp_len env vs]
theorem wp_in {env : En} {j : Nat} : ∀ {vs : List Nat}, j ∈ vs → j < env.length → (wp vs env)[j]? = some .un
  | v :: vs, h, hl => by
    unfold wp
    by_cases e : j = v
    · subst e; rw [List.getElem?_set_self (by rw [wp_len]; exact hl)]
    · rw [List.getElem?_set_ne (Ne.symm e)]
      exact wp_in (by simpa [e] using h) hl
theorem wp_out {env : En} {j : Nat} : ∀ {vs : List Nat}, j ∉ vs → (wp vs env)[j]? = env[j]?
  | [], _ => rfl
  | v :: vs, h => by
    unfold wp
    rw [List.getElem?_set_ne (fun e => h (by rw [e]; exact List.mem_cons_self))]
    exact wp_out fun z => h (List.mem_cons_of_mem _ z)
theorem wipe_in {σ : L2.St} {j : Nat} : ∀ {vs : List Nat}, j ∈ vs → j < σ.length → (wipe σ vs)[j]? = some none
  | v :: vs, h, hl => by
    unfold wipe
    by_cases e : j = v
    · subst e; rw [List.getElem?_set_self (by rw [wipe_length]; exact hl)]
    · rw [List.getElem?_set_ne (Ne.symm e)]
      exact wipe_in (by simpa [e] using h) hl
theorem wipe_out {σ : L2.St} {j : Nat} : ∀ {vs : List Nat}, j ∉ vs → (wipe σ vs)[j]? = σ[j]?
  | [], _ => rfl
  | v :: vs, h => by
    unfold wipe
    rw [List.getElem?_set_ne (fun e => h (by rw [e]; exact List.mem_cons_self))]
    exact wipe_out fun z => h (List.mem_cons_of_mem _ z)
theorem wipe_but {σ σ' : L2.St} {vs ts : List Nat} (h : But ts (wipe σ vs) σ') (hs : ∀ j ∈ ts, j ∈ vs) : wipe σ' vs = wipe σ vs := by
  have hl : σ'.length = σ.length := by rw [h.1, wipe_length]
  apply List.ext_getElem?
  intro j
  by_cases hj : j ∈ vs
  · by_cases hb : j < σ.length
    · rw [wipe_in hj (by rw [hl]; exact hb), wipe_in hj hb]
    · rw [List.getElem?_eq_none (by rw [wipe_length, hl]; omega), List.getElem?_eq_none (by rw [wipe_length]; omega)]
  · rw [wipe_out hj, h.2 j fun z => hj (hs j z)]
theorem wipeE_inv {vs : List Nat} {env e : En} (h : wipeE vs env = some e) : (∀ j ∈ vs, canWipe env[j]? = true) ∧ e = wp vs env := by
  unfold wipeE at h
  split at h
  · rename_i q
    cases h
    exact ⟨fun j hj => List.all_eq_true.mp q j hj, rfl⟩
  · cases h
theorem restore_len (o e : En) : ∀ vs : List Nat, (restore vs o e).length = e.length
  | [] => rfl
  | v :: vs => by unfold restore; rw [List.length_set, restore_len o e vs]
theorem restore_in {o e : En} {j : Nat} : ∀ {vs : List Nat}, j ∈ vs → j < e.length → (restore vs o e)[j]? = some (o.getD j .un)
  | v :: vs, h, hl => by
    unfold restore
    by_cases q : j = v
    · subst q; rw [List.getElem?_set_self (by rw [restore_len]; exact hl)]
    · rw [List.getElem?_set_ne (Ne.symm q)]
      exact restore_in (by simpa [q] using h) hl
theorem restore_out {o e : En} {j : Nat} : ∀ {vs : List Nat}, j ∉ vs → (restore vs o e)[j]? = e[j]?
  | [], _ => rfl
  | v :: vs, h => by
    unfold restore
    rw [List.getElem?_set_ne (fun q => h (by rw [q]; exact List.mem_cons_self))]
    exact restore_out fun z => h (List.mem_cons_of_mem _ z)
section
variable {K : Fg} {B : Bs} {F H : Hp} {σ : L2.St} {env : En}
theorem canWipe_lt {j : Nat} (h : canWipe env[j]? = true) : j < env.length := by
  cases q : env[j]? with
  | none => rw [q] at h; cases h
  | some x => exact (List.getElem?_eq_some_iff.mp q).1
theorem canWipe_no {j : Nat} {d : D} (h : canWipe env[j]? = true) : ¬ IsOw env j d := fun o => by
  rcases o with o | o <;> (rw [o] at h; cases h)
theorem Sl.wipe (S : Sl K B F H σ env) {vs : List Nat} (hv : ∀ j ∈ vs, canWipe env[j]? = true) : Sl K B F H (L2.wipe σ vs) (wp vs env) := by
  have get : ∀ {j : Nat} {x : Sv}, (wp vs env)[j]? = some x → x ≠ .un → j ∉ vs ∧ env[j]? = some x := fun {j x} e nu => by
    by_cases hj : j ∈ vs
    · rw [wp_in hj (canWipe_lt (hv j hj))] at e
      cases e
      exact absurd rfl nu
    · rw [wp_out hj] at e
      exact ⟨hj, e⟩
  have ow : ∀ {j : Nat} {d : D}, IsOw (wp vs env) j d → j ∉ vs ∧ IsOw env j d := fun {j d} o => by
    rcases o with o | o
    · obtain ⟨a, b⟩ := get o (fun z => nomatch z)
      exact ⟨a, .inl b⟩
    · obtain ⟨a, b⟩ := get o (fun z => nomatch z)
      exact ⟨a, .inr b⟩
  refine ⟨S.fh, by rw [wp_len, wipe_length]; exact S.len, fun j d e => ?_, fun j d o => ?_, fun i j d e p a b c f => ?_, fun q hq => ?_, S.f0, S.nw, S.kp, S.lc, fun q hq => ?_⟩
  · obtain ⟨a, b⟩ := get e (fun z => nomatch z)
    rw [wipe_out a]
    exact S.fz j d b
  · obtain ⟨a, b⟩ := ow o
    rw [wipe_out a]
    exact S.own j d b
  · obtain ⟨a1, a2⟩ := ow a
    obtain ⟨b1, b2⟩ := ow b
    rw [wipe_out a1] at c
    rw [wipe_out b1] at f
    exact S.ap i j d e p a2 b2 c f
  · obtain ⟨⟨d, h1⟩, h2⟩ := S.pm q hq
    have hn : q.1 ∉ vs := fun z => canWipe_no (hv _ z) (.inr h1)
    rw [wp_out hn, wipe_out hn]
    exact ⟨⟨d, h1⟩, h2⟩
  · obtain ⟨g1, g2, g3, g4⟩ := S.hx q hq
    exact ⟨g1, g2, g3, fun j d o => by
      obtain ⟨a, b⟩ := ow o
      rw [wipe_out a]
      exact g4 j d b⟩
/-- behind the block: its names are what they were -/
theorem Sl.back {F' H' : Hp} {e : En} (S : Sl K B F H σ env) {vs : List Nat} (hv : ∀ j ∈ vs, canWipe env[j]? = true) (S' : Sl K B F' H' (L2.wipe σ vs) e) (s : Sub F F') : Sl K B F' H' σ (restore vs env e) ∧ ∀ (j : Nat) (d : D), IsOw (restore vs env e) j d → IsOw e j d ∧ (L2.wipe σ vs)[j]? = σ[j]? := by
  have ln : e.length = σ.length := by rw [S'.len, wipe_length]
  have get : ∀ {j : Nat} {x : Sv}, (restore vs env e)[j]? = some x → (j ∈ vs ∧ env[j]? = some x) ∨ (j ∉ vs ∧ e[j]? = some x) := fun {j x} q => by
    by_cases hj : j ∈ vs
    · have hl := canWipe_lt (hv j hj)
      rw [restore_in hj (by rw [ln, ← S.len]; exact hl)] at q
      refine .inl ⟨hj, ?_⟩
      rw [List.getD_eq_getElem?_getD, List.getElem?_eq_getElem hl] at q
      rw [List.getElem?_eq_getElem hl]
      exact q
    · rw [restore_out hj] at q
      exact .inr ⟨hj, q⟩
  have ow : ∀ {j : Nat} {d : D}, IsOw (restore vs env e) j d → j ∉ vs ∧ IsOw e j d := fun {j d} o => by
    rcases o with o | o
    · rcases get o with ⟨a, b⟩ | ⟨a, b⟩
      · exact absurd (.inl b) (canWipe_no (d := d) (hv j a))
      · exact ⟨a, .inl b⟩
    · rcases get o with ⟨a, b⟩ | ⟨a, b⟩
      · exact absurd (.inr b) (canWipe_no (d := d) (hv j a))
      · exact ⟨a, .inr b⟩
  refine ⟨⟨S'.fh, by rw [restore_len]; exact ln, fun j d q => ?_, fun j d o => ?_, fun i j d e p a b c f => ?_, fun q hq => ?_, S'.f0, S'.nw, S'.kp, S'.lc, fun q hq => ?_⟩, fun j d o => ⟨(ow o).2, wipe_out (ow o).1⟩⟩
  · rcases get q with ⟨a, b⟩ | ⟨a, b⟩
    · obtain ⟨v, h1, h2⟩ := S.fz j d b
      exact ⟨v, h1, h2.mono s⟩
    · rw [← wipe_out a]
      exact S'.fz j d b
  · obtain ⟨a, b⟩ := ow o
    rw [← wipe_out a]
    exact S'.own j d b
  · obtain ⟨a1, a2⟩ := ow a
    obtain ⟨b1, b2⟩ := ow b
    rw [← wipe_out a1] at c
    rw [← wipe_out b1] at f
    exact S'.ap i j d _ p a2 b2 c f
  · obtain ⟨⟨d, h1⟩, h2⟩ := S'.pm q hq
    obtain ⟨⟨d0, h3⟩, _⟩ := S.pm q hq
    have hn : q.1 ∉ vs := fun z => canWipe_no (hv _ z) (.inr h3)
    rw [restore_out hn, ← wipe_out hn]
    exact ⟨⟨d, h1⟩, h2⟩
  · obtain ⟨g1, g2, g3, g4⟩ := S'.hx q hq
    exact ⟨g1, g2, g3, fun j d o => by
      obtain ⟨a, b⟩ := ow o
      rw [← wipe_out a]
      exact g4 j d b⟩
end

/-! ### [f for t in it if c] -/
def bTrue : Bf := fun env => some (true, env)
def lcGo (vs : List Nat) (t : Tg) (c : Bf) (f : Df) : List D → En → Option (List D × En)
  | [], env => some ([], env)
  | d :: ds, env => (t d env).bind fun e1 => (c e1).bind fun b => if b.1 = true then (f b.2).bind fun x => (wipeE vs x.2).bind fun e => (lcGo vs t c f ds e).bind fun r => some (x.1 :: r.1, r.2) else (wipeE vs b.2).bind fun e => lcGo vs t c f ds e
def eLc (vs : List Nat) (t : Tg) (it : If) (c : Bf) (f : Df) : Df := fun env => (it env).bind fun r => if r.1.length < 100000 then (wipeE vs r.2).bind fun e => (lcGo vs t c f r.1 e).bind fun z => some (.list z.1, restore vs r.2 z.2) else none
theorem lc_le {K : Fg} {vs ts : List Nat} {t : Tg} {it : If} {c : Bf} {f : Df} (hs : ∀ j ∈ ts, j ∈ vs) : ∀ σ H Q, tN K (eLc vs t it c f) σ H Q → tLc (iD K it) (gD K t ts) (tT K c) (tD K f) vs σ H Q := fun σ H Q ⟨B, F, env, d, env', S, ef, k⟩ => by
  obtain ⟨⟨ds, e1⟩, q1, ef⟩ := bd ef
  by_cases hlen : ds.length < 100000
  rotate_left
  · rw [if_neg hlen] at ef; cases ef
  rw [if_pos hlen] at ef
  obtain ⟨e2, q2, ef⟩ := bd ef
  obtain ⟨⟨all, ez⟩, q3, ef⟩ := bd ef
  cases ef
  obtain ⟨hv, rfl⟩ := wipeE_inv q2
  refine ⟨B, F, env, ds, e1, S, q1, fun J F1 H1 S1 s1 W Dl hD => ?_⟩
  have nX := S1.neX hD
  refine ⟨fun i m H => m = ds.length - i ∧ i ≤ ds.length ∧ ∃ F2 en vacc acc rest, Sl K (B.hold Dl (.lst vacc)) F2 H (L2.wipe σ vs) en ∧ Sub F1 F2 ∧ DtA K F2 vacc acc ∧ vacc.length ≤ i ∧ lcGo vs t c f (ds.drop i) en = some (rest, ez) ∧ acc ++ rest = all,
    ⟨ds.length, by simp, Nat.zero_le _, F1, _, [], [], all, ?_, Sub.refl _, .nil, Nat.le_refl _, q3, rfl⟩, ?_⟩
  · refine ((S1.wipe hv).laid hD).hold upd_same (S1.fh.none hD) (S1.fresh hD) fun i d o => (S1.wipe hv).neOw hD o
  rintro i m H2 ⟨rfl, hi, F2, en, vacc, acc, rest, S2, s2, hda, hvl, e3, hall⟩
  obtain ⟨w1, w2⟩ := W S2 s2 i
  cases hd : ds[i]? with
  | none =>
    have hl : ds.length ≤ i := List.getElem?_eq_none_iff.mp hd
    rw [List.drop_eq_nil_of_le hl] at e3
    cases e3
    rw [List.append_nil] at hall
    subst hall
    refine .inl ⟨w2 (Nat.le_antisymm hl hi), ?_⟩
    obtain ⟨h1, h2, h3, h4⟩ := S2.held
    obtain ⟨S3, ow3⟩ := S1.back hv S2.unhold s2
    exact k Dl F2 H2 S3 (s1.trans s2) h2 h3 (fun j d o => by
      obtain ⟨a, b⟩ := ow3 j d o
      rw [← b]
      exact h4 j d a) nX ⟨vacc, h1, hda⟩
  | some d =>
    have hlt : i < ds.length := (List.getElem?_eq_some_iff.mp hd).1
    rw [drop_get hd] at e3
    obtain ⟨e4, q4, e3⟩ := bd (show (t d en).bind (fun e1 => (c e1).bind fun b => if b.1 = true then (f b.2).bind fun x => (wipeE vs x.2).bind fun e => (lcGo vs t c f (ds.drop (i + 1)) e).bind fun r => some (x.1 :: r.1, r.2) else (wipeE vs b.2).bind fun e => lcGo vs t c f (ds.drop (i + 1)) e) = some (rest, ez) from e3)
    obtain ⟨⟨b, e5⟩, q5, e3⟩ := bd e3
    obtain ⟨go, yl⟩ := w1 d hd
    refine .inr ⟨go, fun H => ∃ F2 en vacc acc rest, Sl K (B.hold Dl (.lst vacc)) F2 H (L2.wipe σ vs) en ∧ Sub F1 F2 ∧ DtA K F2 vacc acc ∧ vacc.length ≤ i + 1 ∧ lcGo vs t c f (ds.drop (i + 1)) en = some (rest, ez) ∧ acc ++ rest = all, fun H' hN => ⟨ds.length - (i + 1), by omega, rfl, hlt, hN⟩, fun x H' y => ?_⟩
    obtain ⟨F3, S3, s3, hx⟩ := yl x H' y
    refine ⟨B.hold Dl (.lst vacc), F3, en, d, e4, S3, hx, q4, fun σ4 F4 H4 S4 s4 but => ⟨wipe_but but hs, B.hold Dl (.lst vacc), F4, e4, b, e5, S4, q5, fun F5 H5 S5 s5 => ?_⟩⟩
    have hw := wipe_but but hs
    have s25 : Sub F2 F5 := (s3.trans s4).trans s5
    cases b with
    | false =>
      rw [if_neg Bool.false_ne_true] at e3
      refine iteF ?_
      obtain ⟨e6, q6, e3⟩ := bd e3
      obtain ⟨hv6, rfl⟩ := wipeE_inv q6
      exact ⟨F5, _, vacc, acc, rest, hw ▸ S5.wipe hv6, s2.trans s25, hda.mono s25, Nat.le_succ_of_le hvl, e3, hall⟩
    | true =>
      rw [if_pos rfl] at e3
      refine iteT ?_
      obtain ⟨⟨x', e6⟩, q6, e3⟩ := bd e3
      obtain ⟨e7, q7, e3⟩ := bd e3
      obtain ⟨⟨r1, ez'⟩, q8, e3⟩ := bd e3
      cases e3
      obtain ⟨hv7, rfl⟩ := wipeE_inv q7
      refine ⟨B.hold Dl (.lst vacc), F5, e5, x', e6, S5, q6, fun v F6 H6 S6 s6 hv6 => ?_⟩
      obtain ⟨g1, g2, g3, g4⟩ := S6.held
      refine ⟨vacc, g1, Nat.lt_of_le_of_lt (Nat.le_trans hvl (Nat.le_of_lt hlt)) (Nat.lt_of_lt_of_le hlen (by decide)), ?_⟩
      exact ⟨F6, _, vacc ++ [v], acc ++ [x'], r1, hw ▸ (S6.rehold (u := .lst (vacc ++ [v])) nX).wipe hv7, s2.trans (s25.trans s6), (hda.mono (s25.trans s6)).append (.cons hv6 .nil), by rw [List.length_append]; exact Nat.succ_le_succ hvl, q8, by rw [List.append_assoc]; exact hall⟩
section
variable {X : Cx} {elt tg iter : Expr} {ifs : List Expr} {scope : Scope} {own : List (Str × Nat)} {pos : Pos}
theorem dts_nil : PTs X [] (tT X.K bTrue) := ⟨fun pins s σ H Q I h => by
  obtain ⟨B, F, env, b, env', S, ef, k⟩ := h
  cases ef
  exact pts_nil.run pins s σ H Q I (k F H S (Sub.refl F))⟩
theorem dts_one {c : Expr} {t : Bf} (h : PT X c (tT X.K t)) : PTs X [c] (tT X.K t) := pts_one h
theorem de_lc {t : Tg} {ts : List Nat} {it : If} {c : Bf} {f : Df} (hc : X.calm = true) (hN : X.N.Nodup) (hs' : ∀ j ∈ ts, j ∈ own.map (·.2)) (hi : PI X tg iter (iD X.K it)) (ok : BlkOk X.N X.env.scope scope own)
    (hg : ∀ (s : Shared) (H : Hp) (C : Addr) (cl : List (Str × Addr)) (fp : List Addr), PG (X.blk s H scope (compEnvC scope cl C X.env) fp) tg (gD X.K t ts)) (ht : ∀ (s : Shared) (H : Hp) (C : Addr) (cl : List (Str × Addr)) (fp : List Addr), PTs (X.blk s H scope (compEnvC scope cl C X.env) fp) ifs (tT X.K c))
    (he : ∀ (s : Shared) (H : Hp) (C : Addr) (cl : List (Str × Addr)) (fp : List Addr), PE (X.blk s H scope (compEnvC scope cl C X.env) fp) elt (tD X.K f)) (hs : ∀ x, foldedSetIterable iter X.env x = pure x := by intro _; rfl) :
    PE X (.ListComp elt [⟨tg, iter, ifs, 0⟩] scope pos) (tN X.K (eLc (own.map (·.2)) t it c f)) := PEi (pe_lc hc hN hi ok hg ht he hs) (lc_le hs')
theorem dS_setLc {i : Nat} {y : Str} {py spos : Pos} {t : Tg} {ts : List Nat} {it : If} {c : Bf} {f : Df} (hc : X.calm = true) (hN : X.N.Nodup) (hs' : ∀ j ∈ ts, j ∈ own.map (·.2)) (hsw : swapsWith (.ListComp elt [⟨tg, iter, ifs, 0⟩] scope pos) (some (.Name y py)) spos.line X.env = pure true) (hi : PI X tg iter (iD X.K it)) (ok : BlkOk X.N X.env.scope scope own)
    (hg : ∀ (s : Shared) (H : Hp) (C : Addr) (cl : List (Str × Addr)) (fp : List Addr), PG (X.blk s H scope (compEnvC scope cl C X.env) fp) tg (gD X.K t ts)) (ht : ∀ (s : Shared) (H : Hp) (C : Addr) (cl : List (Str × Addr)) (fp : List Addr), PTs (X.blk s H scope (compEnvC scope cl C X.env) fp) ifs (tT X.K c))
    (he : ∀ (s : Shared) (H : Hp) (C : Addr) (cl : List (Str × Addr)) (fp : List Addr), PE (X.blk s H scope (compEnvC scope cl C X.env) fp) elt (tD X.K f)) (hs : ∀ x, foldedSetIterable iter X.env x = pure x := by intro _; rfl)
    (hy : X.N[i]? = some y := by rfl) (hyl : X.env.scope.names.lookup y = some .local := by rfl) :
    PS X (.Assign [.Name y py] (.ListComp elt [⟨tg, iter, ifs, 0⟩] scope pos) spos) (tS X.K (sSetN i (eLc (own.map (·.2)) t it c f))) := PSi (ps_setLc hc hN hy hyl hsw hi ok hg ht he hs) fun E σ H ⟨B, F, env, r, S, ef, k⟩ => lc_le hs' σ H _ (by
  obtain ⟨⟨d, e1⟩, q, ef⟩ := bd ef
  obtain ⟨e2, q2, ef⟩ := bd ef
  cases ef
  obtain ⟨hi', np, rfl⟩ := put_inv q2
  exact ⟨B, F, env, d, e1, S, q, fun p F' H' S' s' n n0 no nx ho => k _ F' H' (S'.setO hi' np n n0 no nx ho) s'⟩)
end
end DL

/-! DLg: operators, built-ins. -/
namespace DL
open PySem L2

section
variable {K : Fg} {F H : Hp} {v : V}
theorem Bv.lst {ds : List D} (h : Bv K F H v (.list ds)) (l : Lk F H) : ∃ p vs, v = .ref p ∧ H p = some (.lst vs) ∧ DtA K F vs ds := by
  rcases h with h | ⟨p, rfl, _, vs, e, t⟩
  · cases h with
    | lst e t => exact ⟨_, _, rfl, l.lst e, t⟩
  · exact ⟨p, vs, rfl, e, t⟩
theorem Bv.tup {ds : List D} (h : Bv K F H v (.tuple ds)) (l : Lk F H) : ∃ p vs, v = .ref p ∧ F p = some (.tup vs) ∧ H p = some (.tup vs) ∧ DtA K F vs ds := by
  rcases h with h | ⟨p, rfl, _, z⟩
  · cases h with
    | tup e t => exact ⟨_, _, rfl, e, l.tup e, t⟩
  · exact z.elim
theorem Bv.tupD {ds : List D} (h : Bv K F H v (.tuple ds)) : Dt K F v (.tuple ds) := h.dt fun _ z => z
end
theorem szL {n : Nat} (h : n ≤ 100000) : n ≤ sizeLine := Nat.le_trans h (by decide)
theorem szL' {n : Nat} (h : n < 100000) : n < sizeLine := Nat.lt_of_lt_of_le h (by decide)

/-! ### + - * // % ** -/
def gAdd : D → D → Option D
  | .int a, .int b => some (.int (a + b))
  | .tuple a, .tuple b => if a.length + b.length ≤ 100000 then some (.tuple (a ++ b)) else none
  | .list a, .list b => if a.length + b.length ≤ 100000 then some (.list (a ++ b)) else none
  | .str a, .str b => if a.length + b.length ≤ 100000 then some (.str (a ++ b)) else none
  | _, _ => none
def gCat : D → D → Option D
  | .list a, .list b => if a.length + b.length ≤ 100000 then some (.list (a ++ b)) else none
  | _, _ => none
def rStrCat : R2 := fun x y H Q => ∃ i j, x = .str i ∧ y = .str j ∧ i.length + j.length ≤ sizeLine ∧ Q (.str (i ++ j)) H
def rAddI : R2 := rI0 fun i j => .int (i + j)
def rAdds (K : Fg) : R2 := fun x y H Q => rAddI x y H Q ∨ rCatA K x y H Q ∨ rCat x y H Q ∨ rStrCat x y H Q
theorem op_adds {X : Cx} : OpR X (binaryOp .Add) (rAdds X.K) := OpR.or op_add (OpR.or op_catA (OpR.or op_cat op_add_str))
theorem ok_adds {K : Fg} : Ok2 K (rAdds K) gAdd := fun {B F H σ env x y a b d Q} S ha hb e k => by
  unfold gAdd at e
  split at e
  · cases e
    exact .inl ⟨_, _, ha.int_inv, hb.int_inv, k _ F H S (Sub.refl _) (.int _)⟩
  · split at e
    · rename_i hl
      cases e
      obtain ⟨p, vs, rfl, f1, h1, t1⟩ := ha.tup S.fh
      obtain ⟨q, ws, rfl, f2, h2, t2⟩ := hb.tup S.fh
      refine .inr (.inl ⟨p, q, vs, ws, rfl, rfl, SqT.of h1, SqT.of h2, szL (by rw [t1.length, t2.length]; exact hl), fun e => ?_, fun e1 e => ?_, fun e1 e2 r hr => ?_⟩)
      · subst e; cases t1; exact k _ F H S (Sub.refl _) (.tup f2 t2)
      · subst e; cases t2; rw [List.append_nil] at k; exact k _ F H S (Sub.refl _) (.tup f1 t1)
      · exact k _ _ _ (S.new hr) (S.subNew hr) (.tup upd_same ((t1.append t2).mono (S.subNew hr)))
    · cases e
  · split at e
    · rename_i hl
      cases e
      obtain ⟨p, vs, rfl, h1, t1⟩ := ha.lst S.fh
      obtain ⟨q, ws, rfl, h2, t2⟩ := hb.lst S.fh
      refine .inr (.inr (.inl ⟨p, q, vs, ws, rfl, rfl, h1, h2, szL (by rw [t1.length, t2.length]; exact hl), fun r hr => ?_⟩))
      exact k _ _ _ (S.new hr) (S.subNew hr) (.lst upd_same ((t1.append t2).mono (S.subNew hr)))
    · cases e
  · split at e
    · rename_i hl
      cases e
      exact .inr (.inr (.inr ⟨_, _, ha.str_inv, hb.str_inv, szL hl, k _ F H S (Sub.refl _) (.str _)⟩))
    · cases e
  · cases e
theorem KN.at_new {K : Fg} {B : Bs} {F H : Hp} {σ : L2.St} {env : En} {d : D} {Q : VK} {p : Addr} {o : HO} (k : KN K B F σ env d Q) (S : Sl K B F H σ env) (n : H p = none) (ho : Own K F (upd H p o) p d) : Q (.ref p) (upd H p o) :=
  k p F (upd H p o) (S.laid n) (Sub.refl _) (S.fh.none n) (S.fresh n) (fun i e o => S.neOw n o) (S.neX n) ho
theorem ok_cat {K : Fg} : Ok2N K rCat gCat := fun {B F H σ env x y a b d Q} S ha hb e k => by
  unfold gCat at e
  split at e
  · split at e
    · rename_i hl
      cases e
      obtain ⟨p, vs, rfl, h1, t1⟩ := ha.lst S.fh
      obtain ⟨q, ws, rfl, h2, t2⟩ := hb.lst S.fh
      exact ⟨p, q, vs, ws, rfl, rfl, h1, h2, szL (by rw [t1.length, t2.length]; exact hl), fun r hr => k.at_new S hr ⟨_, upd_same, t1.append t2⟩⟩
    · cases e
  · cases e
def gInt2 (C : Int → Int → Bool) (g : Int → Int → Int) : D → D → Option D
  | .int a, .int b => if C a b = true then some (.int (g a b)) else none
  | _, _ => none
theorem ok_int2 {K : Fg} {P : Int → Int → Prop} {C : Int → Int → Bool} {g : Int → Int → Int} (h : ∀ i j, C i j = true → P i j) : Ok2 K (rI P fun i j => .int (g i j)) (gInt2 C g) := fun {B F H σ env x y a b d Q} S ha hb e k => by
  unfold gInt2 at e
  split at e
  · split at e
    · rename_i hc
      cases e
      exact ⟨_, _, ha.int_inv, hb.int_inv, h _ _ hc, k _ F H S (Sub.refl _) (.int _)⟩
    · cases e
  · cases e
def gSub : D → D → Option D
  | .int a, .int b => some (.int (a - b))
  | _, _ => none
theorem ok_sub {K : Fg} : Ok2 K (rI0 fun i j => .int (i - j)) gSub := fun {B F H σ env x y a b d Q} S ha hb e k => by
  unfold gSub at e
  split at e
  · cases e
    exact ⟨_, _, ha.int_inv, hb.int_inv, k _ F H S (Sub.refl _) (.int _)⟩
  · cases e
abbrev gMul := gInt2 (fun i j => (decide (-(2 ^ 64) < i) && decide (i < 2 ^ 64)) || (decide (-(2 ^ 64) < j) && decide (j < 2 ^ 64))) (fun i j => i * j)
theorem ok_mul {K : Fg} : Ok2 K (rI CMul fun i j => .int (i * j)) gMul := ok_int2 fun i j h => by
  simp only [Bool.or_eq_true, Bool.and_eq_true, decide_eq_true_eq] at h
  exact h
abbrev gMod := gInt2 (fun _ j => decide (0 < j)) (fun i j => i % j)
theorem ok_mod {K : Fg} : Ok2 K (rI (fun _ j => 0 < j) fun i j => .int (i % j)) gMod := ok_int2 fun i j h => of_decide_eq_true h
abbrev gDiv := gInt2 (fun _ j => decide (0 < j) && decide (j.natAbs.log2 < 9000)) (fun i j => i / j)
theorem ok_div {K : Fg} : Ok2 K (rI CDivW fun i j => .int (i / j)) gDiv := ok_int2 fun i j h => by
  simp only [Bool.and_eq_true, decide_eq_true_eq] at h
  exact h
abbrev gPow := gInt2 (fun i j => decide (0 ≤ j) && (decide (j ≤ 1000) && decide (i.natAbs < 2 ^ 64))) (fun i j => i ^ j.toNat)
theorem ok_pow {K : Fg} : Ok2 K (rI CPow fun i j => .int (i ^ j.toNat)) gPow := ok_int2 fun i j h => by
  simp only [Bool.and_eq_true, decide_eq_true_eq] at h
  obtain ⟨a, b, c⟩ := h
  exact ⟨a, Int.le_trans b (by decide), c⟩
def gNeg : D → Option D
  | .int a => some (.int (-a))
  | _ => none
theorem ok_neg {K : Fg} : Ok1 K (rU fun i => .int (-i)) gNeg := fun {B F H σ env x a d Q} S ha e k => by
  unfold gNeg at e
  split at e
  · cases e
    exact ⟨_, ha.int_inv, k _ F H S (Sub.refl _) (.int _)⟩
  · cases e
theorem de_neg {X : Cx} {a : Expr} {o : Opd} {pos : Pos} (ha : PE X a (tO X.K o)) : PE X (.UnaryOp .USub a pos) (tD X.K (op1 gNeg o)) := PEi (pe_un un_neg ha) (op1_le ok_neg)

/-! ### comparisons -/
def gCmp (p : Int → Int → Bool) : D → D → Option D
  | .int a, .int b => some (.bool (p a b))
  | _, _ => none
theorem ok_cmp {K : Fg} {p : Int → Int → Bool} : Ok2 K (rI0 fun i j => .bl (p i j)) (gCmp p) := fun {B F H σ env x y a b d Q} S ha hb e k => by
  unfold gCmp at e
  split at e
  · cases e
    exact ⟨_, _, ha.int_inv, hb.int_inv, k _ F H S (Sub.refl _) (.bl _)⟩
  · cases e
abbrev gLt := gCmp fun i j => decide (i < j)
abbrev gLe := gCmp fun i j => decide (i ≤ j)
abbrev gGt := gCmp fun i j => decide (j < i)
abbrev gGe := gCmp fun i j => decide (j ≤ i)
mutual
def noDct : D → Bool
  | .list ds => noDcts ds
  | .tuple ds => noDcts ds
  | .dict _ => false
  | _ => true
def noDcts : List D → Bool
  | [] => true
  | d :: ds => noDct d && noDcts ds
end
mutual
theorem Dt.dp {K : Fg} {F H : Hp} (l : Lk F H) : ∀ {v : V} {d : D}, Dt K F v d → noDct d = true → Dp K H v d
  | _, _, .non, _ => .non
  | _, _, .bl b, _ => .bl b
  | _, _, .int b, _ => .int b
  | _, _, .str b, _ => .str b
  | _, _, .lst h t, n => .lst (SqL.of (l.lst h)) (t.dp l (by simpa [noDct] using n))
  | _, _, .tup h t, n => .tup (SqT.of (l.tup h)) (t.dp l (by simpa [noDct] using n))
  | _, _, .scr h, n => by simp [noDct] at n
  | _, _, .dk h t, n => by simp [noDct] at n
  | _, _, .dt h t, n => by simp [noDct] at n
theorem DtA.dp {K : Fg} {F H : Hp} (l : Lk F H) : ∀ {v : List V} {d : List D}, DtA K F v d → noDcts d = true → DpAll K H v d
  | _, _, .nil, _ => .nil
  | _, _, .cons h t, n => by
    simp only [noDcts, Bool.and_eq_true] at n
    exact .cons (h.dp l n.1) (t.dp l n.2)
end
theorem Bv.dp {K : Fg} {F H : Hp} {v : V} {d : D} (h : Bv K F H v d) (l : Lk F H) (n : noDct d = true) : Dp K H v d := by
  rcases h with h | ⟨p, rfl, _, ho⟩
  · exact h.dp l n
  · cases d with
    | list ds => obtain ⟨vs, e, t⟩ := ho; exact .lst (SqL.of e) (t.dp l (by simpa [noDct] using n))
    | dict es => simp [noDct] at n
    | _ => exact ho.elim
def gEqq (n : Bool) : D → D → Option D := fun a b => if (noDct a && SeqAt.shaped a && (noDct b && SeqAt.shaped b)) = true then some (.bool (xor n (PyData.eqv a b))) else match a, b with
  | .str x, .str y => some (.bool (xor n (x == y)))
  | _, _ => none
def gEq : D → D → Option D := gEqq false
def gNe : D → D → Option D := gEqq true
def rEqs (K : Fg) : R2 := fun x y H Q => rEqD K x y H Q ∨ rEq x y H Q
def rNes (K : Fg) : R2 := fun x y H Q => rNeD K x y H Q ∨ rNe x y H Q
theorem op_eqs {X : Cx} (hu : X.A.units + 64 < cLine) : OpR X (compareOp .Eq) (rEqs X.K) := OpR.or (op_eqD hu) op_eq
theorem op_nes {X : Cx} (hu : X.A.units + 64 < cLine) : OpR X (compareOp .NotEq) (rNes X.K) := OpR.or (op_neD hu) op_ne
theorem ok_eq {K : Fg} : Ok2 K (rEqs K) gEq := fun {B F H σ env x y a b d Q} S ha hb e k => by
  unfold gEq gEqq at e
  split at e
  · rename_i h
    cases e
    simp only [Bool.and_eq_true] at h
    exact .inl ⟨_, _, ha.dp S.fh h.1.1, hb.dp S.fh h.2.1, h.1.2, h.2.2, by simpa using k _ F H S (Sub.refl _) (.bl _)⟩
  · split at e
    · cases e
      rw [ha.str_inv, hb.str_inv]
      exact .inr ⟨rfl, by rw [dec_str]; simpa using k _ F H S (Sub.refl _) (.bl _)⟩
    · cases e
theorem ok_ne {K : Fg} : Ok2 K (rNes K) gNe := fun {B F H σ env x y a b d Q} S ha hb e k => by
  unfold gNe gEqq at e
  split at e
  · rename_i h
    cases e
    simp only [Bool.and_eq_true] at h
    exact .inl ⟨_, _, ha.dp S.fh h.1.1, hb.dp S.fh h.2.1, h.1.2, h.2.2, by simpa using k _ F H S (Sub.refl _) (.bl _)⟩
  · split at e
    · cases e
      rw [ha.str_inv, hb.str_inv]
      exact .inr ⟨rfl, by rw [dec_str]; simpa using k _ F H S (Sub.refl _) (.bl _)⟩
    · cases e

/-! ### isinstance(x, T), T a built-in class -/
def tyN : D → String
  | .none => "NoneType"
  | .bool _ => "bool"
  | .int _ => "int"
  | .str _ => "str"
  | .list _ => "list"
  | .tuple _ => "tuple"
  | .dict _ => "dict"
/-- is an object of the class named T one of U -/
def isT (T U : String) : Bool := T == U || (T == "bool" && U == "int")
/-- data whose class is told -/
def plainTy : D → Bool
  | .dict [] => true
  | .dict ((.int _, _) :: _) => true
  | .dict ((.str _, _) :: _) => true
  | .dict _ => false
  | _ => true
def gIsi (U : String) : D → Option D := fun d => if plainTy d = true then some (.bool (isT (tyN d) U)) else none
theorem Bv.tyX {K : Fg} {F H : Hp} {v : V} {d : D} (h : Bv K F H v d) (l : Lk F H) (n : plainTy d = true) : TyX K H v (.type (tyN d)) := by
  cases d with
  | none => rw [h.none_inv]; exact .base .non
  | bool b => rw [h.bool_inv]; exact .base (.bl b)
  | int b => rw [h.int_inv]; exact .base (.int b)
  | str b => rw [h.str_inv]; exact .base (.str b)
  | list ds => obtain ⟨p, vs, rfl, e, _⟩ := h.lst l; exact .base (.lst e)
  | tuple ds => obtain ⟨p, vs, rfl, _, e, _⟩ := h.tup l; exact .base (.tup e)
  | dict es =>
    rcases h with h | ⟨p, rfl, _, ho⟩
    · cases h with
      | scr _ => cases n
      | dk e t =>
        rcases l _ _ e with q | ⟨_, ob, q⟩
        · exact .base (.dK q)
        · exact .fDict q
      | dt e t =>
        rcases l _ _ e with q | ⟨z, ob, q⟩
        · exact .base (.dT q)
        · cases t with
          | nil => exact absurd rfl z
          | cons _ _ => cases n
    · rcases ho with ⟨kvs, e, _⟩ | ⟨kvs, e, _⟩
      · exact .base (.dK e)
      · exact .base (.dT e)
/-- the classes that are asked for -/
def knownTy (U : String) : Bool := ["NoneType", "bool", "int", "str", "list", "tuple", "dict"].all fun T => kitB T U == some (isT T U)
theorem kit_known {U : String} (h : knownTy U = true) (d : D) : kitB (tyN d) U = some (isT (tyN d) U) := by
  have h := List.all_eq_true.mp h
  have q : ∀ T, T ∈ ["NoneType", "bool", "int", "str", "list", "tuple", "dict"] → kitB T U = some (isT T U) := fun T hT => beq_iff_eq.mp (h T hT)
  cases d <;> exact q _ (by simp [tyN])
section
variable {X : Cx} {e a b : Expr} {pos : Pos}
theorem de_isi {T : Str} {U : String} {p q : Pos} {o : Opd} (hk : knownTy U = true) (hg : Gl X "isinstance") (hm : X.mg "isinstance" = none) (ha : PE X e (tO X.K o)) (hgT : Gl X T) (hmT : X.mg T = none) (hvT : bootBuiltins T = some (.type U))
    (hnT : T ≠ "__name__" := by decide) (hdT : (T == ("__debug__" : Str)) = false := by decide) (he : starEach [e, .Name T q] X.env = [(false, eval e X.env), (false, eval (.Name T q) X.env)] := by rfl) (he2 : starEach [.Name T q] X.env = [(false, eval (.Name T q) X.env)] := by rfl)
    (hpl : (backTo pos (starEach [.Name T q] X.env)).any (·.1) = false := by rfl) : PE X (.Call (.Name "isinstance" p) [e, .Name T q] [] pos) (tD X.K (op1 (gIsi U) o)) :=
  PEi (pe_callB call_isi hg hm PyProof.Rows.boot_isinstance (pa_cons ha (pa_cons (pe_bltn (v := .ty U) hgT hmT hvT rfl hnT hdT) pa_nil he2) (by rw [he, he2])) (by decide) (by decide) (by rw [he, he2]) hpl) fun σ H Q ⟨B, F, env, d, env', S, ef, k⟩ => by
    obtain ⟨⟨u, e1⟩, q1, ef⟩ := bd ef
    obtain ⟨x, q2, ef⟩ := bd ef
    obtain ⟨d', q3, ef⟩ := bd ef
    cases ef
    unfold gIsi at q3
    split at q3
    · rename_i hp
      cases q3
      exact ⟨B, F, env, u, _, S, q1, fun v F1 H1 S1 s1 h1 => ⟨v, .ty U, .type (tyN x), .type U, _, rfl, .ty U, (h1.bv S1 q2).tyX S1.fh hp, kit_ty (kit_known hk x), k _ F1 H1 S1 s1 (.bl _)⟩⟩
    · cases q3
end
end DL

/-! DLh: built-ins, items, slices, displays, changes of lists. -/
namespace DL
open PySem L2

theorem DtK.key {K : Fg} {F : Hp} : ∀ {kvs : List (Key × V)} {es : List (D × D)}, DtK K F kvs es → ∀ q ∈ es, ∃ k, q.1 = kD k
  | _, _, .nil, q, h => nomatch h
  | _, _, .cons _ t, q, h => by
    rcases List.mem_cons.mp h with rfl | h
    · exact ⟨_, rfl⟩
    · exact t.key q h
theorem DtT.key {K : Fg} {F : Hp} : ∀ {kvs : List (List Key × V)} {es : List (D × D)}, DtT K F kvs es → ∀ q ∈ es, ∃ k : List Key, q.1 = .tuple (k.map kD)
  | _, _, .nil, q, h => nomatch h
  | _, _, .cons _ t, q, h => by
    rcases List.mem_cons.mp h with rfl | h
    · exact ⟨_, rfl⟩
    · exact t.key q h
/-! ### len, all, any, max, min, int, list, tuple -/
def gLen : List D → Option D
  | [.list ds] => some (.int ds.length)
  | [.tuple ds] => some (.int ds.length)
  | [.str x] => if x.length ≤ 100000 then some (.int x.length) else none
  | [.dict [(.none, .list ds)]] => some (.int ds.length)
  | _ => none
def rLen1 (K : Fg) : List V → Hp → VK → Prop := fun xs H Q => ∃ x n, xs = [x] ∧ LenV K x H n ∧ Q (.int n) H
theorem call_len1 {X : Cx} : CallR X (.builtin "len") (rLen1 X.K) := call_len
theorem kD_none {k : Key} (h : (PyData.none : D) = kD k) : False := by
  cases k <;> cases h
theorem Bv.scr {K : Fg} {F H : Hp} {v : V} {ds : List D} (h : Bv K F H v (.dict [(.none, .list ds)])) (l : Lk F H) : ∃ (p : Addr) (ns : List Int), v = .ref p ∧ SqL K H p (ns.map V.int) ∧ ds = ns.map .int := by
  rcases h with h | ⟨p, rfl, _, ho⟩
  · cases h with
    | scr h => exact ⟨_, _, rfl, l.sqL h, rfl⟩
    | dk e t =>
      obtain ⟨k, q⟩ := t.key _ List.mem_cons_self
      exact (kD_none q).elim
    | dt e t =>
      obtain ⟨k, q⟩ := t.key _ List.mem_cons_self
      cases q
  · rcases ho with ⟨kvs, e, t⟩ | ⟨kvs, e, t⟩
    · obtain ⟨k, q⟩ := t.key _ List.mem_cons_self
      exact (kD_none q).elim
    · obtain ⟨k, q⟩ := t.key _ List.mem_cons_self
      cases q
theorem ok_len {K : Fg} : OkA K (rLen1 K) gLen := fun {B F H σ env xs ds d Q} S h e k => by
  unfold gLen at e
  split at e
  · cases e
    obtain ⟨v, rfl, h0⟩ := h.one
    obtain ⟨p, vs, rfl, hp, t⟩ := h0.lst S.fh
    refine ⟨_, _, rfl, .inl ⟨vs, SqL.of hp, rfl⟩, ?_⟩
    rw [t.length]
    exact k _ F H S (Sub.refl _) (.int _)
  · cases e
    obtain ⟨v, rfl, h0⟩ := h.one
    obtain ⟨p, vs, rfl, _, hp, t⟩ := h0.tup S.fh
    refine ⟨_, _, rfl, .inr ⟨vs, SqT.of hp, rfl⟩, ?_⟩
    rw [t.length]
    exact k _ F H S (Sub.refl _) (.int _)
  · split at e
    · rename_i hl
      cases e
      obtain ⟨v, rfl, h0⟩ := h.one
      rw [h0.str_inv]
      exact ⟨_, _, rfl, ⟨szL hl, rfl⟩, k _ F H S (Sub.refl _) (.int _)⟩
    · cases e
  · cases e
    obtain ⟨v, rfl, h0⟩ := h.one
    obtain ⟨p, ns, rfl, hp, rfl⟩ := h0.scr S.fh
    refine ⟨_, _, rfl, .inl ⟨_, hp, rfl⟩, ?_⟩
    rw [List.length_map]
    rw [List.length_map] at k
    exact k _ F H S (Sub.refl _) (.int _)
  · cases e
def boolsOf : List D → Option (List Bool)
  | [] => some []
  | .bool b :: r => (boolsOf r).bind fun bs => some (b :: bs)
  | _ :: _ => none
theorem bools_vals {K : Fg} {F : Hp} : ∀ {ds : List D} {vs : List V} {bs : List Bool}, DtA K F vs ds → boolsOf ds = some bs → vs = bs.map V.bl
  | [], _, _, .nil, e => by cases e; rfl
  | .bool b :: r, _, bs, .cons h t, e => by
    obtain ⟨bs', q, e⟩ := bd (show (boolsOf r).bind (fun bs => some (b :: bs)) = some bs from e)
    cases e
    rw [h.bool_inv, bools_vals t q]
    rfl
  | .none :: _, _, _, _, e => by cases e
  | .int _ :: _, _, _, _, e => by cases e
  | .str _ :: _, _, _, _, e => by cases e
  | .list _ :: _, _, _, _, e => by cases e
  | .tuple _ :: _, _, _, _, e => by cases e
  | .dict _ :: _, _, _, _, e => by cases e
def gAll : List D → Option D
  | [.list ds] => (boolsOf ds).bind fun bs => some (.bool (bs.all id))
  | _ => none
def gAny : List D → Option D
  | [.list ds] => (boolsOf ds).bind fun bs => some (.bool (bs.any id))
  | _ => none
theorem ok_all {K : Fg} : OkA K (rAll K) gAll := fun {B F H σ env xs ds d Q} S h e k => by
  unfold gAll at e
  split at e
  · obtain ⟨bs, q, e⟩ := bd e
    cases e
    obtain ⟨v, rfl, h0⟩ := h.one
    obtain ⟨p, vs, rfl, hp, t⟩ := h0.lst S.fh
    exact ⟨p, bs, rfl, by rw [← bools_vals t q]; exact SqL.of hp, k _ F H S (Sub.refl _) (.bl _)⟩
  · cases e
theorem ok_any {K : Fg} : OkA K (rAny K) gAny := fun {B F H σ env xs ds d Q} S h e k => by
  unfold gAny at e
  split at e
  · obtain ⟨bs, q, e⟩ := bd e
    cases e
    obtain ⟨v, rfl, h0⟩ := h.one
    obtain ⟨p, vs, rfl, hp, t⟩ := h0.lst S.fh
    exact ⟨p, bs, rfl, by rw [← bools_vals t q]; exact SqL.of hp, k _ F H S (Sub.refl _) (.bl _)⟩
  · cases e
def gMax2 : List D → Option D
  | [.int i, .int j] => some (.int (if j > i then j else i))
  | _ => none
def gMin2 : List D → Option D
  | [.int i, .int j] => some (.int (if j < i then j else i))
  | _ => none
def rMax2' : List V → Hp → VK → Prop := fun xs H Q => ∃ i j, xs = [.int i, .int j] ∧ Q (.int (if j > i then j else i)) H
def rMin2' : List V → Hp → VK → Prop := fun xs H Q => ∃ i j, xs = [.int i, .int j] ∧ Q (.int (if j < i then j else i)) H
theorem ok_max2 {K : Fg} : OkA K rMax2' gMax2 := fun {B F H σ env xs ds d Q} S h e k => by
  unfold gMax2 at e
  split at e
  · cases e
    obtain ⟨v, w, rfl, h1, h2⟩ := h.two
    exact ⟨_, _, by rw [h1.int_inv, h2.int_inv], k _ F H S (Sub.refl _) (.int _)⟩
  · cases e
theorem ok_min2 {K : Fg} : OkA K rMin2' gMin2 := fun {B F H σ env xs ds d Q} S h e k => by
  unfold gMin2 at e
  split at e
  · cases e
    obtain ⟨v, w, rfl, h1, h2⟩ := h.two
    exact ⟨_, _, by rw [h1.int_inv, h2.int_inv], k _ F H S (Sub.refl _) (.int _)⟩
  · cases e
def gInt : List D → Option D
  | [.int i] => some (.int i)
  | [.bool b] => some (.int (if b then 1 else 0))
  | _ => none
def rInt1 : List V → Hp → VK → Prop := fun xs H Q => (∃ i, xs = [.int i] ∧ Q (.int i) H) ∨ ∃ k, xs = [.bl k] ∧ Q (.int (if k then 1 else 0)) H
theorem ok_int {K : Fg} : OkA K rInt1 gInt := fun {B F H σ env xs ds d Q} S h e k => by
  unfold gInt at e
  split at e
  · cases e
    obtain ⟨v, rfl, h0⟩ := h.one
    exact .inl ⟨_, by rw [h0.int_inv], k _ F H S (Sub.refl _) (.int _)⟩
  · cases e
    obtain ⟨v, rfl, h0⟩ := h.one
    exact .inr ⟨_, by rw [h0.bool_inv], k _ F H S (Sub.refl _) (.int _)⟩
  · cases e
def gList : List D → Option D
  | [.list ds] => some (.list ds)
  | [.tuple ds] => some (.list ds)
  | _ => none
def rListOf (K : Fg) : List V → Hp → VK → Prop := fun xs H Q => ∃ p ys, xs = [.ref p] ∧ (SqL K H p ys ∨ SqT K H p ys) ∧ ∀ l, H l = none → Q (.ref l) (upd H l (.lst ys))
theorem ok_list {K : Fg} : OkAN K (rListOf K) gList := fun {B F H σ env xs ds d Q} S h e k => by
  unfold gList at e
  split at e
  · cases e
    obtain ⟨v, rfl, h0⟩ := h.one
    obtain ⟨p, vs, rfl, hp, t⟩ := h0.lst S.fh
    exact ⟨p, vs, rfl, .inl (SqL.of hp), fun r hr => k.at_new S hr ⟨_, upd_same, t⟩⟩
  · cases e
    obtain ⟨v, rfl, h0⟩ := h.one
    obtain ⟨p, vs, rfl, _, hp, t⟩ := h0.tup S.fh
    exact ⟨p, vs, rfl, .inr (SqT.of hp), fun r hr => k.at_new S hr ⟨_, upd_same, t⟩⟩
  · cases e
def gTuple : List D → Option D
  | [.list ds] => some (.tuple ds)
  | [.tuple ds] => some (.tuple ds)
  | _ => none
def rTupOf (K : Fg) : List V → Hp → VK → Prop := fun xs H Q => ∃ p ys, xs = [.ref p] ∧ ((SqL K H p ys ∧ ∀ l, H l = none → Q (.ref l) (upd H l (.tup ys))) ∨ (SqT K H p ys ∧ Q (.ref p) H))
theorem ok_tuple {K : Fg} : OkA K (rTupOf K) gTuple := fun {B F H σ env xs ds d Q} S h e k => by
  unfold gTuple at e
  split at e
  · cases e
    obtain ⟨v, rfl, h0⟩ := h.one
    obtain ⟨p, vs, rfl, hp, t⟩ := h0.lst S.fh
    exact ⟨p, vs, rfl, .inl ⟨SqL.of hp, fun r hr => k _ _ _ (S.new hr) (S.subNew hr) (.tup upd_same (t.mono (S.subNew hr)))⟩⟩
  · cases e
    obtain ⟨v, rfl, h0⟩ := h.one
    obtain ⟨p, vs, rfl, f, hp, t⟩ := h0.tup S.fh
    exact ⟨p, vs, rfl, .inr ⟨SqT.of hp, k _ F H S (Sub.refl _) (.tup f t)⟩⟩
  · cases e

/-! ### x[i] -/
def gIx : D → D → Option D
  | .list ds, .int i => atI ds i
  | .tuple ds, .int i => atI ds i
  | .dict [(.none, .list ds)], .int i => atI ds i
  | .str z, .int i => if z.length ≤ 100000 then (atI z.cps.toList i).bind fun c => some (.str ⟨#[c]⟩) else none
  | _, _ => none
theorem DtA.at {K : Fg} {F : Hp} {vs : List V} {ds : List D} {i : Int} {d : D} (t : DtA K F vs ds) (h : atI ds i = some d) : ∃ v, atI vs i = some v ∧ Dt K F v d := by
  unfold atI at h ⊢
  rw [t.length]
  obtain ⟨j, q, h⟩ := bd h
  rw [q]
  exact t.get h
theorem ok_ix {K : Fg} : Ok2 K (rIx K) gIx := fun {B F H σ env x y a b d Q} S ha hb e k => by
  unfold gIx at e
  split at e
  · obtain ⟨p, vs, rfl, hp, t⟩ := ha.lst S.fh
    obtain ⟨v, h1, h2⟩ := t.at e
    exact .inl ⟨p, vs, _, v, rfl, hb.int_inv, SqL.of hp, h1, k _ F H S (Sub.refl _) h2⟩
  · obtain ⟨p, vs, rfl, _, hp, t⟩ := ha.tup S.fh
    obtain ⟨v, h1, h2⟩ := t.at e
    exact .inr (.inl ⟨p, vs, _, v, rfl, hb.int_inv, SqT.of hp, h1, k _ F H S (Sub.refl _) h2⟩)
  · obtain ⟨p, ns, rfl, hp, rfl⟩ := ha.scr S.fh
    have t : DtA K F (ns.map V.int) (ns.map .int) := by
      clear hp e k ha
      induction ns with
      | nil => exact .nil
      | cons n r ih => exact .cons (.int n) ih
    obtain ⟨v, h1, h2⟩ := t.at e
    exact .inl ⟨p, _, _, v, rfl, hb.int_inv, hp, h1, k _ F H S (Sub.refl _) h2⟩
  · split at e
    · rename_i hl
      obtain ⟨c, q, e⟩ := bd e
      cases e
      exact .inr (.inr ⟨_, _, c, ha.str_inv, hb.int_inv, szL hl, q, k _ F H S (Sub.refl _) (.str _)⟩)
    · cases e
  · cases e
section
variable {X : Cx} {e a b : Expr} {es : List Expr} {pos : Pos}
theorem de_ix {oa ob : Opd} (ha : PE X a (tO X.K oa)) (hb : PE X b (tO X.K ob)) (hs : PlainIx b) : PE X (.Subscript a b pos) (tD X.K (op2 gIx oa ob)) := PEi (pe_ix ix_seq ha hb hs) (op2_le ok_ix)
end

/-! ### x[lo:hi] -/
def cutD (xs : List D) (lo hi : Option Int) : List D := (xs.drop (HT.sIx xs.length 0 lo)).take (HT.sIx xs.length xs.length hi - HT.sIx xs.length 0 lo)
theorem DtA.cut {K : Fg} {F : Hp} {vs : List V} {ds : List D} (t : DtA K F vs ds) (lo hi : Option Int) : DtA K F (cutV vs lo hi) (cutD ds lo hi) := by
  unfold cutV cutD
  rw [t.length]
  exact (t.drop _).take _
/-- a slice's part -/
abbrev Pf := En → Option (Option Int × En)
def pNo : Pf := fun env => some (none, env)
def pAt (f : Df) : Pf := fun env => (f env).bind fun r => match r.1 with
  | .int i => some (some i, r.2)
  | _ => none
def tP (K : Fg) (f : Pf) : TO := fun σ H Q => ∃ B F env o env', Sl K B F H σ env ∧ f env = some (o, env') ∧ ∀ F' H', Sl K B F' H' σ env' → Sub F F' → Q o H'
def eSlice (g : D → Option Int → Option Int → Option D) (a : Opd) (lo hi : Pf) : Df := fun env => (a.ev env).bind fun r => (lo r.2).bind fun l => (hi l.2).bind fun h => (r.1.look h.2).bind fun x => (g x l.1 h.1).bind fun d => some (d, h.2)
def gCut : D → Option Int → Option Int → Option D
  | .list ds, lo, hi => some (.list (cutD ds lo hi))
  | .tuple ds, lo, hi => some (.tuple (cutD ds lo hi))
  | _, _, _ => none
def gCutL : D → Option Int → Option Int → Option D
  | .list ds, lo, hi => some (.list (cutD ds lo hi))
  | _, _, _ => none
def rCuts (K : Fg) : V → Option Int → Option Int → Hp → VK → Prop := fun x lo hi H Q => rSlL K x lo hi H Q ∨ rSlA K x lo hi H Q
theorem cut_whole {xs : List D} {lo hi : Option Int} (h : HT.sIx xs.length 0 lo = 0 ∧ HT.sIx xs.length xs.length hi = xs.length) : cutD xs lo hi = xs := by
  unfold cutD
  rw [h.1, h.2]
  simp
section
variable {X : Cx} {e a b : Expr} {es : List Expr} {lo hi : Option Expr} {p2 pos : Pos}
theorem dp_none : PO X none (tP X.K pNo) := ⟨fun pins s σ H Q I h => by
  obtain ⟨B, F, env, o, env', S, ef, k⟩ := h
  cases ef
  exact po_none.run pins s σ H Q I (k F H S (Sub.refl F))⟩
theorem dp_some {f : Df} (h : PE X e (tD X.K f)) : PO X (some e) (tP X.K (pAt f)) := ⟨fun pins s σ H Q I hw => by
  obtain ⟨B, F, env, o, env', S, ef, k⟩ := hw
  obtain ⟨⟨d, e1⟩, q, ef⟩ := bd ef
  cases d <;> first | (cases ef; done) | skip
  cases ef
  exact (po_some h).run pins s σ H Q I ⟨B, F, env, _, _, S, q, fun v F' H' S' s' hd => ⟨_, hd.int_inv, k F' H' S' s'⟩⟩⟩
theorem de_slice {oa : Opd} {fl fh : Pf} (ha : PE X a (tO X.K oa)) (hl : PO X lo (tP X.K fl)) (hh : PO X hi (tP X.K fh)) : PE X (.Subscript a (.Slice lo hi none p2) pos) (tD X.K (eSlice gCut oa fl fh)) :=
  PEi (pe_slice (SlR.or sl_list sl_tupA) ha hl hh) fun σ H Q ⟨B, F, env, d, env', S, ef, k⟩ => by
    obtain ⟨⟨u, e1⟩, q1, ef⟩ := bd ef
    obtain ⟨⟨l, e2⟩, q2, ef⟩ := bd ef
    obtain ⟨⟨h, e3⟩, q3, ef⟩ := bd ef
    obtain ⟨x, q4, ef⟩ := bd ef
    obtain ⟨d', q5, ef⟩ := bd ef
    cases ef
    refine ⟨B, F, env, u, e1, S, q1, fun v F1 H1 S1 s1 h1 => ⟨B, F1, e1, l, e2, S1, q2, fun F2 H2 S2 s2 => ⟨B, F2, e2, h, _, S2, q3, fun F3 H3 S3 s3 => ?_⟩⟩⟩
    have hx := ((h1.mono s2).mono s3).bv S3 q4
    have ss : Sub F F3 := (s1.trans s2).trans s3
    unfold gCut at q5
    split at q5
    · cases q5
      obtain ⟨p, vs, rfl, hp, t⟩ := hx.lst S3.fh
      exact .inl ⟨p, vs, rfl, SqL.of hp, fun r hr => k _ _ _ (S3.new hr) (ss.trans (S3.subNew hr)) (.lst upd_same ((t.cut l h).mono (S3.subNew hr)))⟩
    · rename_i ds
      cases q5
      obtain ⟨p, vs, rfl, f, hp, t⟩ := hx.tup S3.fh
      refine .inr ⟨p, vs, rfl, SqT.of hp, fun w => ?_, fun _ r hr => k _ _ _ (S3.new hr) (ss.trans (S3.subNew hr)) (.tup upd_same ((t.cut l h).mono (S3.subNew hr)))⟩
      rw [t.length] at w
      rw [cut_whole w] at k
      exact k _ F3 H3 S3 ss (.tup f t)
    · cases q5
theorem de_sliceN {oa : Opd} {fl fh : Pf} (ha : PE X a (tO X.K oa)) (hl : PO X lo (tP X.K fl)) (hh : PO X hi (tP X.K fh)) : PE X (.Subscript a (.Slice lo hi none p2) pos) (tN X.K (eSlice gCutL oa fl fh)) :=
  PEi (pe_slice sl_list ha hl hh) fun σ H Q ⟨B, F, env, d, env', S, ef, k⟩ => by
    obtain ⟨⟨u, e1⟩, q1, ef⟩ := bd ef
    obtain ⟨⟨l, e2⟩, q2, ef⟩ := bd ef
    obtain ⟨⟨h, e3⟩, q3, ef⟩ := bd ef
    obtain ⟨x, q4, ef⟩ := bd ef
    obtain ⟨d', q5, ef⟩ := bd ef
    cases ef
    refine ⟨B, F, env, u, e1, S, q1, fun v F1 H1 S1 s1 h1 => ⟨B, F1, e1, l, e2, S1, q2, fun F2 H2 S2 s2 => ⟨B, F2, e2, h, _, S2, q3, fun F3 H3 S3 s3 => ?_⟩⟩⟩
    have hx := ((h1.mono s2).mono s3).bv S3 q4
    have ss : Sub F F3 := (s1.trans s2).trans s3
    unfold gCutL at q5
    split at q5
    · cases q5
      obtain ⟨p, vs, rfl, hp, t⟩ := hx.lst S3.fh
      refine ⟨p, vs, rfl, SqL.of hp, fun r hr => ?_⟩
      have kk : KN X.K B F3 σ _ (.list (cutD _ l h)) Q := fun p' F' H' S' s' a1 a2 a3 a4 a5 => k p' F' H' S' (ss.trans s') a1 a2 a3 a4 a5
      exact kk.at_new S3 hr ⟨_, upd_same, t.cut l h⟩
    · cases q5
end

/-! ### displays -/
def fzAll : List OV → Option (List D)
  | [] => some []
  | .fz d :: r => (fzAll r).bind fun ds => some (d :: ds)
  | .sl _ :: _ => none
theorem fzAll_dt {K : Fg} {F : Hp} {σ : L2.St} : ∀ {us : List OV} {vs : List V} {ds : List D}, OVA K F σ us vs → fzAll us = some ds → DtA K F vs ds
  | [], [], _, _, e => by cases e; exact .nil
  | .fz d :: us, v :: vs, ds, h, e => by
    obtain ⟨ds', q, e⟩ := bd (show (fzAll us).bind (fun ds => some (d :: ds)) = some ds from e)
    cases e
    exact .cons h.1 (fzAll_dt h.2 q)
  | .sl _ :: _, _, _, _, e => by cases e
  | [], _ :: _, _, h, _ => h.elim
  | .fz _ :: _, [], _, h, _ => h.elim
def eTup (os : List Opd) : Df := fun env => (evs os env).bind fun r => (fzAll r.1).bind fun ds => if ds.length ≤ 100000 then some (.tuple ds, r.2) else none
def eLst (os : List Opd) : Df := fun env => (evs os env).bind fun r => (fzAll r.1).bind fun ds => if ds.length ≤ 100000 then some (.list ds, r.2) else none
section
variable {X : Cx} {e a b : Expr} {es : List Expr} {pos : Pos}
theorem de_tup {os : List Opd} {x1 : Nat} (h : PA X es (tAr X.K os)) : PE X (.Tuple es x1 pos) (tD X.K (eTup os)) := PEi (pe_tup h) fun σ H Q ⟨B, F, env, d, env', S, ef, k⟩ => by
  obtain ⟨⟨us, e1⟩, q1, ef⟩ := bd ef
  obtain ⟨ds, q2, ef⟩ := bd ef
  by_cases hl : ds.length ≤ 100000
  · rw [if_pos hl] at ef
    cases ef
    refine ⟨B, F, env, us, _, S, q1, fun vs F1 H1 S1 s1 h1 => ?_⟩
    have t := fzAll_dt h1 q2
    exact ⟨szL (by rw [t.length]; exact hl), fun p hp => k _ _ _ (S1.new hp) (s1.trans (S1.subNew hp)) (.tup upd_same (t.mono (S1.subNew hp)))⟩
  · rw [if_neg hl] at ef; cases ef
theorem de_lst {os : List Opd} (h : PA X es (tAr X.K os)) : PE X (.List es pos) (tN X.K (eLst os)) := PEi (pe_lst h) fun σ H Q ⟨B, F, env, d, env', S, ef, k⟩ => by
  obtain ⟨⟨us, e1⟩, q1, ef⟩ := bd ef
  obtain ⟨ds, q2, ef⟩ := bd ef
  by_cases hl : ds.length ≤ 100000
  · rw [if_pos hl] at ef
    cases ef
    refine ⟨B, F, env, us, _, S, q1, fun vs F1 H1 S1 s1 h1 => ?_⟩
    have t := fzAll_dt h1 q2
    refine ⟨szL (by rw [t.length]; exact hl), fun p hp => ?_⟩
    have kk : KN X.K B F1 σ _ (.list ds) Q := fun p' F' H' S' s' a1 a2 a3 a4 a5 => k p' F' H' S' (s1.trans s') a1 a2 a3 a4 a5
    exact kk.at_new S1 hp ⟨_, upd_same, t⟩
  · rw [if_neg hl] at ef; cases ef
end

/-! ### a name's own list is changed -/
def chgAt (i : Nat) (g : D → Option D) (env : En) : Option En := match env[i]? with
  | some (.ow d) => (g d).bind fun d' => some (env.set i (.ow d'))
  | some (.pw d) => (g d).bind fun d' => some (env.set i (.pw d'))
  | _ => none
theorem chgAt_inv {i : Nat} {g : D → Option D} {env e : En} (h : chgAt i g env = some e) : ∃ d d' x, IsOw env i d ∧ g d = some d' ∧ ((env[i]? = some (.ow d) ∧ x = .ow d') ∨ (env[i]? = some (.pw d) ∧ x = .pw d')) ∧ e = env.set i x := by
  unfold chgAt at h
  split at h
  · rename_i d q
    obtain ⟨d', q2, h⟩ := bd h
    cases h
    exact ⟨d, d', _, .inl q, q2, .inl ⟨q, rfl⟩, rfl⟩
  · rename_i d q
    obtain ⟨d', q2, h⟩ := bd h
    cases h
    exact ⟨d, d', _, .inr q, q2, .inr ⟨q, rfl⟩, rfl⟩
  · cases h
/-- xs.append(e) -/
def gApp (x : D) : D → Option D
  | .list ds => if ds.length < 100000 then some (.list (ds ++ [x])) else none
  | _ => none
/-- xs.m(..): the arguments, then the name's object is changed -/
def ownL : Option Sv → Option (List D)
  | some (.ow (.list ds)) => some ds
  | some (.pw (.list ds)) => some ds
  | _ => none
theorem ownL_inv {i : Nat} {env : En} {ds : List D} (h : ownL env[i]? = some ds) : IsOw env i (.list ds) := by
  unfold ownL at h
  split at h
  · rename_i q; cases h; exact .inl q
  · rename_i q; cases h; exact .inr q
  · cases h
def eMeth (i : Nat) (g : List D → D → Option D) (os : List Opd) : Df := fun env => (ownL env[i]?).bind fun _ => (evs os env).bind fun r => (fzAll r.1).bind fun ds => (chgAt i (g ds) r.2).bind fun e => some (.none, e)
def gAppend : List D → D → Option D
  | [x], .list ds => if ds.length < 100000 then some (.list (ds ++ [x])) else none
  | _, _ => none
def gInsert : List D → D → Option D
  | [.int i, x], .list ds => if ds.length < 100000 ∧ 0 ≤ i ∧ i < 2 ^ 63 then some (.list (ds.take i.toNat ++ [x] ++ ds.drop i.toNat)) else none
  | _, _ => none
/-- what a method of a list does to it -/
def OkM (K : Fg) (r : V → List V → Hp → VK → Prop) (g : List D → D → Option D) : Prop := ∀ {F H : Hp} {p : Addr} {vs ws : List V} {ds xs : List D} {d' : D} {Q : VK}, H p = some (.lst vs) → DtA K F vs ds → DtA K F ws xs → g xs (.list ds) = some d' →
  (∀ o, Own K F (upd H p o) p d' → Q .non (upd H p o)) → r (.ref p) ws H Q
def gLst : D → Option (List D)
  | .list ds => some ds
  | _ => none
theorem DtA.one {K : Fg} {F : Hp} {vs : List V} {d : D} (h : DtA K F vs [d]) : ∃ v, vs = [v] ∧ Dt K F v d := by
  cases h with
  | cons h t => cases t; exact ⟨_, rfl, h⟩
theorem DtA.two {K : Fg} {F : Hp} {vs : List V} {d e : D} (h : DtA K F vs [d, e]) : ∃ v w, vs = [v, w] ∧ Dt K F v d ∧ Dt K F w e := by
  cases h with
  | cons h t => obtain ⟨w, rfl, q⟩ := t.one; exact ⟨_, _, rfl, h, q⟩
theorem okm_append {K : Fg} : OkM K rAppend gAppend := fun {F H p vs ws ds xs d' Q} hp t tx e k => by
  unfold gAppend at e
  split at e
  · split at e
    · rename_i hl
      cases e
      obtain ⟨v, rfl, hv⟩ := tx.one
      rename_i ds' _ _ z
      cases z
      exact ⟨p, vs, v, rfl, rfl, hp, szL' (by rw [t.length]; exact hl), k _ ⟨_, upd_same, t.append (.cons hv .nil)⟩⟩
    · cases e
  · cases e
def rInsert : V → List V → Hp → VK → Prop := fun x vs H Q => ∃ (l : Addr) (xs : List V) (i : Int) (y : V), x = .ref l ∧ vs = [.int i, y] ∧ H l = some (.lst xs) ∧ xs.length < sizeLine ∧ 0 ≤ i ∧ i < 2 ^ 63 ∧ Q .non (upd H l (.lst (xs.take i.toNat ++ [y] ++ xs.drop i.toNat)))
theorem okm_insert {K : Fg} : OkM K rInsert gInsert := fun {F H p vs ws ds xs d' Q} hp t tx e k => by
  unfold gInsert at e
  split at e
  · split at e
    · rename_i hl
      cases e
      obtain ⟨v, w, rfl, hv, hw⟩ := tx.two
      rename_i ds' _ _ z
      cases z
      exact ⟨p, vs, _, w, rfl, by rw [hv.int_inv], hp, szL' (by rw [t.length]; exact hl.1), hl.2.1, hl.2.2, k _ ⟨_, upd_same, ((t.take _).append (.cons hw .nil)).append (t.drop _)⟩⟩
    · cases e
  · cases e
section
variable {X : Cx} {e a b : Expr} {es : List Expr} {pos apos cpos : Pos} {x name : Str} {id : String}
theorem de_lm {i : Nat} {r : V → List V → Hp → VK → Prop} {g : List D → D → Option D} {os : List Opd} (slot : Slot "list" name id) (hty : typeOf (.builtin id) = pure (.type "method_descriptor")) (hm : MtR X id r) (hk : OkM X.K r g) (hgl : ∀ ds d d', g ds d = some d' → ∃ l, d = .list l)
    (ha : PA X (e :: es) (tAr X.K os)) (hN : X.N[i]? = some x := by rfl) (hv : Vis X.env.scope x := by first | exact Or.inl rfl | exact Or.inr (Or.inl rfl) | exact Or.inr (Or.inr rfl)) (hd : (x == ("__debug__" : Str)) = false := by decide) (hcd : (x == ("__classdict__" : Str)) = false := by decide)
    (hbase : attributeBase (.Name x pos) name X.env (eval (.Name x pos) X.env) = eval (.Name x pos) X.env := by rfl)
    (hfew : ((backTo cpos (starEach (e :: es) X.env)).all (fun x => !x.1) && (backToKw cpos (keywordEach [] X.env)).all (fun x => x.1.isSome)
      && decide ((e :: es).length + ([] : List Keyword).length + (if ([] : List Keyword).isEmpty then 0 else 1) < 30)) = true := by rfl)
    (hline : (apos.endLine == cpos.line) = true := by rfl) (hs : starEach (e :: es) X.env = (false, eval e X.env) :: starEach es X.env := by rfl) (hplain : (backTo cpos (starEach es X.env)).any (·.1) = false := by rfl) :
    PE X (.Call (.Attribute (.Name x pos) name apos) (e :: es) [] cpos) (tD X.K (eMeth i g os)) :=
  PEi (pe_bm PySem.F.plainAttrs_list slot hty hm (pe_var hN hv hd hcd) ha hbase hfew hline hs hplain) fun σ H Q ⟨B, F, env, d, env', S, ef, k⟩ => by
    obtain ⟨ov, q0, ef⟩ := bd ef
    obtain ⟨⟨us, e1⟩, q1, ef⟩ := bd ef
    obtain ⟨ds, q2, ef⟩ := bd ef
    obtain ⟨e2, q3, ef⟩ := bd ef
    cases ef
    obtain ⟨d0, d1, y, ow, hg, hx, rfl⟩ := chgAt_inv q3
    obtain ⟨l0, rfl⟩ := hgl _ _ _ hg
    obtain ⟨p, h1, h2, ⟨vs, h3, h4⟩, _⟩ := S.own i _ (ownL_inv q0)
    refine ⟨_, h1, .inl ⟨rfl, vs, SqL.of h3⟩, B, F, env, us, e1, S, q1, fun ws F1 H1 S1 s1 ha1 => ?_⟩
    obtain ⟨p', g1, g2, ⟨vs', g3, g4⟩, _⟩ := S1.own i _ ow
    rw [h1] at g1; cases g1
    exact hk g3 g4 (fzAll_dt ha1 q2) hg fun o ho => k _ F1 _ (S1.chg ow h1 hx ho) s1 .non
theorem de_append {i : Nat} {os : List Opd} (ha : PA X [e] (tAr X.K os)) (hN : X.N[i]? = some x := by rfl) (hv : Vis X.env.scope x := by first | exact Or.inl rfl | exact Or.inr (Or.inl rfl) | exact Or.inr (Or.inr rfl)) (hd : (x == ("__debug__" : Str)) = false := by decide) (hcd : (x == ("__classdict__" : Str)) = false := by decide)
    (hbase : attributeBase (.Name x pos) "append" X.env (eval (.Name x pos) X.env) = eval (.Name x pos) X.env := by rfl)
    (hfew : ((backTo cpos (starEach [e] X.env)).all (fun x => !x.1) && (backToKw cpos (keywordEach [] X.env)).all (fun x => x.1.isSome)
      && decide ([e].length + ([] : List Keyword).length + (if ([] : List Keyword).isEmpty then 0 else 1) < 30)) = true := by rfl)
    (hline : (apos.endLine == cpos.line) = true := by rfl) (hs : starEach [e] X.env = (false, eval e X.env) :: starEach [] X.env := by rfl) (hplain : (backTo cpos (starEach [] X.env)).any (·.1) = false := by rfl) :
    PE X (.Call (.Attribute (.Name x pos) "append" apos) [e] [] cpos) (tD X.K (eMeth i gAppend os)) :=
  de_lm PySem.F.slot_list_append PySem.F.type_list_append mt_append okm_append (fun ds d d' h => by
    unfold gAppend at h
    split at h
    · exact ⟨_, rfl⟩
    · cases h) ha hN hv hd hcd hbase hfew hline hs hplain
theorem de_insert {i : Nat} {os : List Opd} (ha : PA X [a, b] (tAr X.K os)) (hN : X.N[i]? = some x := by rfl) (hv : Vis X.env.scope x := by first | exact Or.inl rfl | exact Or.inr (Or.inl rfl) | exact Or.inr (Or.inr rfl)) (hd : (x == ("__debug__" : Str)) = false := by decide) (hcd : (x == ("__classdict__" : Str)) = false := by decide)
    (hbase : attributeBase (.Name x pos) "insert" X.env (eval (.Name x pos) X.env) = eval (.Name x pos) X.env := by rfl)
    (hfew : ((backTo cpos (starEach [a, b] X.env)).all (fun x => !x.1) && (backToKw cpos (keywordEach [] X.env)).all (fun x => x.1.isSome)
      && decide ([a, b].length + ([] : List Keyword).length + (if ([] : List Keyword).isEmpty then 0 else 1) < 30)) = true := by rfl)
    (hline : (apos.endLine == cpos.line) = true := by rfl) (hs : starEach [a, b] X.env = (false, eval a X.env) :: starEach [b] X.env := by rfl) (hplain : (backTo cpos (starEach [b] X.env)).any (·.1) = false := by rfl) :
    PE X (.Call (.Attribute (.Name x pos) "insert" apos) [a, b] [] cpos) (tD X.K (eMeth i gInsert os)) :=
  de_lm PySem.F.slot_list_insert PySem.F.type_list_insert mt_insert okm_insert (fun ds d d' h => by
    unfold gInsert at h
    split at h
    · exact ⟨_, rfl⟩
    · cases h) ha hN hv hd hcd hbase hfew hline hs hplain
/-- xs[i] = e, xs one's own -/
def sSetIx (i : Nat) (f : Df) (ob : Opd) : Sf := fun env => (f env).bind fun r => (ownL r.2[i]?).bind fun _ => (ob.ev r.2).bind fun t => (t.1.look t.2).bind fun y => (chgAt i (gSetL y r.1) t.2).bind fun e => some (.nx e)
where gSetL : D → D → D → Option D
  | .int k, x, .list ds => (ixN ds.length k).bind fun j => some (.list (ds.set j x))
  | _, _, _ => none
theorem dS_setIx {i : Nat} {ob : Opd} {f : Df} {p1 p2 : Pos} (he : PE X e (tD X.K f)) (hb : PE X b (tO X.K ob)) (hN : X.N[i]? = some x := by rfl) (hv : Vis X.env.scope x := by first | exact Or.inl rfl | exact Or.inr (Or.inl rfl) | exact Or.inr (Or.inr rfl)) (hd : (x == ("__debug__" : Str)) = false := by decide) (hcd : (x == ("__classdict__" : Str)) = false := by decide)
    (ha : ∀ v, assign (.Subscript (.Name x p1) b p2) X.env v = (do
      let ov ← holding [v] (eval (.Name x p1) X.env)
      let iv ← holding [v, ov] (eval b X.env)
      standAt p2
      holding [v, ov, iv] (setItem ov iv v)
      release [v, ov, iv] []) := by intro _; rfl)
    (hs : swapsWithSole [.Subscript (.Name x p1) b p2] e pos.line X.env = pure false := by rfl) (hw : swappedStores [.Subscript (.Name x p1) b p2] e X.env = pure none := by rfl)
    (h1 : (assignEach [.Subscript (.Name x p1) b p2] X.env).map (·.2) = [assign (.Subscript (.Name x p1) b p2) X.env] := by rfl) : PS X (.Assign [.Subscript (.Name x p1) b p2] e pos) (tS X.K (sSetIx i f ob)) :=
  PSi (ps_asg he (pg_sub (pe_var hN hv hd hcd) hb set_list ha) hs hw h1) fun E σ H ⟨B, F, env, r, S, ef, k⟩ => by
    obtain ⟨⟨d, e1⟩, q1, ef⟩ := bd ef
    obtain ⟨l0, q2, ef⟩ := bd ef
    obtain ⟨⟨u, e2⟩, q3, ef⟩ := bd ef
    obtain ⟨y, q4, ef⟩ := bd ef
    obtain ⟨e3, q5, ef⟩ := bd ef
    cases ef
    obtain ⟨d0, d1, z, ow, hg, hx, rfl⟩ := chgAt_inv q5
    refine ⟨B, F, env, d, e1, S, q1, fun v F1 H1 S1 s1 hv1 => ?_⟩
    obtain ⟨p, h1, h2, ⟨vs, h3, h4⟩, _⟩ := S1.own i _ (ownL_inv q2)
    refine ⟨_, h1, B, F1, e1, u, e2, S1, q3, fun w F2 H2 S2 s2 hw2 => ?_⟩
    have hy := hw2.bv S2 q4
    unfold sSetIx.gSetL at hg
    split at hg
    · obtain ⟨j, q6, hg⟩ := bd hg
      cases hg
      obtain ⟨p', g1, g2, ⟨vs', g3, g4⟩, _⟩ := S2.own i _ ow
      rw [h1] at g1; cases g1
      exact ⟨p, vs', _, j, rfl, hy.int_inv, g3, by rw [g4.length]; exact q6, k _ F2 _ (S2.chg ow h1 hx ⟨_, upd_same, g4.set (hv1.mono s2) j⟩) (s1.trans s2)⟩
    · cases hg
end
end DL

/-! DLi: calls of the text's own defs, zip, enumerate, more operators. -/
namespace DL
open PySem L2

/-- a def of the text, as callers want it -/
structure Got (P : Program) (w : World) (K : Fg) (mg : Str → Option Value) (base : Heap) (k : Nat) (x : Str) (ps : List Str) (sp : Sp) : Prop where
  ex : ∃ (f : Addr) (fd : FuncData), FnOk P w K mg base CX0 k f fd ps sp ∧ mg x = some (.ref f) ∧ PySem.W.keepIn K (.ref f) = true ∧ Binds K fd ps []
section
variable {X : Cx} {x : Str} {p pos : Pos} {e : Expr} {es : List Expr} {ps : List Str} {k j : Nat} {fl : List Bool} {g : List D → Option (D × List D)} {os : List Opd}
theorem de_callG (G : Got X.prog X.w X.K X.mg X.base k x ps (spD X.K fl false g)) (hr : Room j X.A) (hg : Gl X x) (ha : PA X (e :: es) (tAr X.K os)) (hj : k ≤ j := by decide) (hdb : (x == ("__debug__" : Str)) = false := by decide) (he : starEach (e :: es) X.env = (false, eval e X.env) :: starEach es X.env := by rfl) (hpl : (backTo pos (starEach es X.env)).any (·.1) = false := by rfl) :
    PE X (.Call (.Name x p) (e :: es) [] pos) (tD X.K (eCall fl g os)) := by
  obtain ⟨f, fd, F, m, kp, b⟩ := G.ex
  exact de_call F (hr.mono hj) hg m kp b ha hdb he hpl
theorem de_callGN (G : Got X.prog X.w X.K X.mg X.base k x ps (spD X.K fl true g)) (hr : Room j X.A) (hg : Gl X x) (ha : PA X (e :: es) (tAr X.K os)) (hj : k ≤ j := by decide) (hdb : (x == ("__debug__" : Str)) = false := by decide) (he : starEach (e :: es) X.env = (false, eval e X.env) :: starEach es X.env := by rfl) (hpl : (backTo pos (starEach es X.env)).any (·.1) = false := by rfl) :
    PE X (.Call (.Name x p) (e :: es) [] pos) (tN X.K (eCall fl g os)) := by
  obtain ⟨f, fd, F, m, kp, b⟩ := G.ex
  exact de_callN F (hr.mono hj) hg m kp b ha hdb he hpl
end
theorem ok_lt {K : Fg} : Ok2 K (rI0 fun i j => .bl (decide (i < j))) gLt := ok_cmp
theorem ok_le {K : Fg} : Ok2 K (rI0 fun i j => .bl (decide (i ≤ j))) gLe := ok_cmp
theorem ok_gt {K : Fg} : Ok2 K (rI0 fun i j => .bl (decide (j < i))) gGt := ok_cmp
theorem ok_ge {K : Fg} : Ok2 K (rI0 fun i j => .bl (decide (j ≤ i))) gGe := ok_cmp
/-- {} -/
def eDict0 : Df := fun env => some (.dict [], env)
theorem de_dict0 {X : Cx} {pos : Pos} : PE X (.Dict [] [] pos) (tN X.K eDict0) := PEi pe_dnewK fun σ H Q ⟨B, F, env, d, env', S, ef, k⟩ => by
  cases ef
  exact fun p hp => KN.at_new (K := X.K) k S hp (.inl ⟨[], upd_same, .nil⟩)

/-! ### zip of two lists, two tuples -/
def pairs : List D → List D → List D
  | a :: as, b :: bs => .tuple [a, b] :: pairs as bs
  | _, _ => []
theorem pairs_get : ∀ {as bs : List D} {i : Nat} {d : D}, (pairs as bs)[i]? = some d → ∃ a b, as[i]? = some a ∧ bs[i]? = some b ∧ d = .tuple [a, b]
  | [], _, _, _, h => by simp [pairs] at h
  | _ :: _, [], _, _, h => by simp [pairs] at h
  | a :: as, b :: bs, 0, d, h => by simp [pairs] at h; exact ⟨a, b, rfl, rfl, h.symm⟩
  | a :: as, b :: bs, i + 1, d, h => pairs_get (as := as) (bs := bs) (i := i) h
theorem pairs_len : ∀ {as bs : List D} {i : Nat}, (pairs as bs).length ≤ i → as.length ≤ i ∨ bs.length ≤ i
  | [], _, _, _ => .inl (Nat.zero_le _)
  | _ :: _, [], _, _ => .inr (Nat.zero_le _)
  | a :: as, b :: bs, 0, h => by simp [pairs] at h
  | a :: as, b :: bs, i + 1, h => by
    rcases pairs_len (as := as) (bs := bs) (i := i) (Nat.le_of_succ_le_succ h) with h | h
    · exact .inl (Nat.succ_le_succ h)
    · exact .inr (Nat.succ_le_succ h)
theorem walks_zipL {K : Fg} {F : Hp} {a b : Addr} {vs ws : List V} {ds es : List D} (ha : F a = some (.lst vs)) (hb : F b = some (.lst ws)) (ta : DtA K F vs ds) (tb : DtA K F ws es) : Walks K (Itz K a b) F (pairs ds es) := fun {B F' H σ env} S s i => by
  have q1 : SqL K H a vs := SqL.of (S.fh.lst (s _ _ ha))
  have q2 : SqL K H b ws := SqL.of (S.fh.lst (s _ _ hb))
  refine ⟨fun d e => ?_, fun hl => ⟨vs, ws, q1, q2, by rw [ta.length, tb.length]; exact pairs_len (Nat.le_of_eq hl)⟩⟩
  obtain ⟨x, y, e1, e2, rfl⟩ := pairs_get e
  obtain ⟨v, h1, h2⟩ := ta.get e1
  obtain ⟨w, h3, h4⟩ := tb.get e2
  refine ⟨⟨vs, ws, v, w, q1, q2, h1, h3⟩, fun z H' y => ?_⟩
  obtain ⟨T, x', y', rfl, nT, rfl, f1, f2⟩ := y
  have g1 := f1 vs q1
  rw [h1] at g1; cases g1
  have g2 := f2 ws q2
  rw [h3] at g2; cases g2
  exact ⟨_, S.new nT, S.subNew nT, .tup upd_same (.cons (h2.mono (s.trans (S.subNew nT))) (.cons (h4.mono (s.trans (S.subNew nT))) .nil))⟩
theorem walks_zipT {K : Fg} {F : Hp} {a b : Addr} {vs ws : List V} {ds es : List D} (ha : F a = some (.tup vs)) (hb : F b = some (.tup ws)) (ta : DtA K F vs ds) (tb : DtA K F ws es) : Walks K (RZ.ItzT K a b) F (pairs ds es) := fun {B F' H σ env} S s i => by
  have q1 : SqT K H a vs := SqT.of (S.fh.tup (s _ _ ha))
  have q2 : SqT K H b ws := SqT.of (S.fh.tup (s _ _ hb))
  refine ⟨fun d e => ?_, fun hl => ⟨vs, ws, q1, q2, by rw [ta.length, tb.length]; exact pairs_len (Nat.le_of_eq hl)⟩⟩
  obtain ⟨x, y, e1, e2, rfl⟩ := pairs_get e
  obtain ⟨v, h1, h2⟩ := ta.get e1
  obtain ⟨w, h3, h4⟩ := tb.get e2
  refine ⟨⟨vs, ws, v, w, q1, q2, h1, h3⟩, fun z H' y => ?_⟩
  obtain ⟨T, x', y', rfl, nT, rfl, f1, f2⟩ := y
  have g1 := f1 vs q1
  rw [h1] at g1; cases g1
  have g2 := f2 ws q2
  rw [h3] at g2; cases g2
  exact ⟨_, S.new nT, S.subNew nT, .tup upd_same (.cons (h2.mono (s.trans (S.subNew nT))) (.cons (h4.mono (s.trans (S.subNew nT))) .nil))⟩
def iZipL (f g : Df) : If := fun env => (f env).bind fun r => (g r.2).bind fun t => match r.1, t.1 with
  | .list ds, .list es => some (pairs ds es, t.2)
  | _, _ => none
def iZipT (f g : Df) : If := fun env => (f env).bind fun r => (g r.2).bind fun t => match r.1, t.1 with
  | .tuple ds, .tuple es => some (pairs ds es, t.2)
  | _, _ => none
section
variable {X : Cx} {e e2 : Expr} {p pos tpos : Pos} {elts : List Expr} {kk : Nat}
theorem zip_args {f g : Df} (h1 : PE X e (tD X.K f)) (h2 : PE X e2 (tD X.K g)) (hs : starEach [e, e2] X.env = (false, eval e X.env) :: starEach [e2] X.env := by rfl) (hs2 : starEach [e2] X.env = [(false, eval e2 X.env)] := by rfl) : PA X [e, e2] (tCons (tD X.K f) (tCons (tD X.K g) tNil)) := pa_cons h1 (pa_cons h2 pa_nil hs2) hs
theorem di_zipL {f g : Df} (hg : Gl X "zip") (hm : X.mg "zip" = none) (h1 : PE X e (tD X.K f)) (h2 : PE X e2 (tD X.K g)) (hs : starEach [e, e2] X.env = (false, eval e X.env) :: starEach [e2] X.env := by rfl) (hs2 : starEach [e2] X.env = [(false, eval e2 X.env)] := by rfl) (hpl : (backTo pos (starEach [e2] X.env)).any (·.1) = false := by rfl) :
    PI X (.Tuple elts kk tpos) (.Call (.Name "zip" p) [e, e2] [] pos) (iD X.K (iZipL f g)) := PIi (RZ.pi_zipA hg hm (zip_args h1 h2 hs hs2) hs hpl) fun σ H R ⟨B, F, env, ds, env', S, ef, k⟩ => by
  obtain ⟨⟨d1, e1⟩, q1, ef⟩ := bd ef
  obtain ⟨⟨d2, e3⟩, q2, ef⟩ := bd ef
  dsimp only at ef
  split at ef
  · cases ef
    refine ⟨B, F, env, _, e1, S, q1, fun v F1 H1 S1 s1 hd1 => ⟨B, F1, e1, _, _, S1, q2, fun w F2 H2 S2 s2 hd2 => ?_⟩⟩
    have hd1 := hd1.mono s2
    cases hd1 with
    | lst a1 t1 =>
      cases hd2 with
      | lst a2 t2 => exact ⟨_, _, _, _, rfl, .inl ⟨SqL.of (S2.fh.lst a1), SqL.of (S2.fh.lst a2), k _ F2 H2 S2 (s1.trans s2) (walks_zipL a1 a2 t1 t2)⟩⟩
  · cases ef
theorem di_zipT {f g : Df} (hg : Gl X "zip") (hm : X.mg "zip" = none) (h1 : PE X e (tD X.K f)) (h2 : PE X e2 (tD X.K g)) (hs : starEach [e, e2] X.env = (false, eval e X.env) :: starEach [e2] X.env := by rfl) (hs2 : starEach [e2] X.env = [(false, eval e2 X.env)] := by rfl) (hpl : (backTo pos (starEach [e2] X.env)).any (·.1) = false := by rfl) :
    PI X (.Tuple elts kk tpos) (.Call (.Name "zip" p) [e, e2] [] pos) (iD X.K (iZipT f g)) := PIi (RZ.pi_zipA hg hm (zip_args h1 h2 hs hs2) hs hpl) fun σ H R ⟨B, F, env, ds, env', S, ef, k⟩ => by
  obtain ⟨⟨d1, e1⟩, q1, ef⟩ := bd ef
  obtain ⟨⟨d2, e3⟩, q2, ef⟩ := bd ef
  dsimp only at ef
  split at ef
  · cases ef
    refine ⟨B, F, env, _, e1, S, q1, fun v F1 H1 S1 s1 hd1 => ⟨B, F1, e1, _, _, S1, q2, fun w F2 H2 S2 s2 hd2 => ?_⟩⟩
    have hd1 := hd1.mono s2
    cases hd1 with
    | tup a1 t1 =>
      cases hd2 with
      | tup a2 t2 => exact ⟨_, _, _, _, rfl, .inr ⟨SqT.of (S2.fh.tup a1), SqT.of (S2.fh.tup a2), k _ F2 H2 S2 (s1.trans s2) (walks_zipT a1 a2 t1 t2)⟩⟩
  · cases ef
end
end DL

/-! DLj: tuple * int, repr. -/
namespace DL
open PySem L2

abbrev tupO (items : Array Value) (n : Nat) (dd : Option Addr) (sl : Array (Option Value)) : Obj := { cls := .type "tuple", dict := dd, data := .seq items n, slots := sl }
theorem tmul_same (l : Addr) (items : Array Value) (n : Nat) (dd : Option Addr) (sl : Array (Option Value)) (x : Int) (u : Tok) (c0 : (decide (x < -(2 ^ 63)) || decide (x ≥ 2 ^ 63)) = false) (c1 : (items.isEmpty || x == 1) = true) :
    Meets (Builtin.«tuple.__mul__» ⟨[.ref l, .int x u], []⟩) (fun _ R s => s.heap.get? l = some (tupO items n dd sl) ∧ R (.ok (.ret (Value.ref l))) s) :=
  .of_wp fun prog w A R s h => by
    obtain ⟨hp, g, d, tk, os⟩ := s
    obtain ⟨hl, h⟩ := h
    have f1 := AutoSeq1.idx_int
    wp_walk using AutoSeq1.wpAny_loadPart' hl
    refine wpAny_ite_false (decide_eq_false (by rw [c0]; exact Bool.false_ne_true)) ?_
    wp_walk using AutoSeq1.wpAny_loadPart' hl
    exact ⟨_, rfl, h⟩
theorem tmul_none (l : Addr) (items : Array Value) (n : Nat) (dd : Option Addr) (sl : Array (Option Value)) (x : Int) (u : Tok) (c0 : (decide (x < -(2 ^ 63)) || decide (x ≥ 2 ^ 63)) = false) (c1 : (items.isEmpty || x == 1) = false) (c2 : (decide (x ≤ 0) || items.isEmpty) = true) :
    Meets (Builtin.«tuple.__mul__» ⟨[.ref l, .int x u], []⟩) (fun _ R s => s.heap.get? l = some (tupO items n dd sl) ∧ R (.ok (.ret (Value.ref s.heap.objs.size))) { s with heap := s.heap.push { cls := Value.type "tuple", data := Data.seq #[] } }) :=
  .of_wp fun prog w A R s h => by
    obtain ⟨hp, g, d, tk, os⟩ := s
    obtain ⟨hl, h⟩ := h
    have f1 := AutoSeq1.idx_int
    wp_walk using AutoSeq1.wpAny_loadPart' hl
    refine wpAny_ite_false (decide_eq_false (by rw [c0]; exact Bool.false_ne_true)) ?_
    wp_walk using AutoSeq1.wpAny_loadPart' hl
    exact ⟨_, rfl, h⟩
/-- t * k: t itself, or nothing -/
def rRepS (K : Fg) : R2 := fun x y H Q => ∃ l k xs, x = .ref l ∧ y = .int k ∧ SqT K H l xs ∧ -(2 ^ 63) ≤ k ∧ k < 2 ^ 63 ∧ ((xs = [] ∨ k = 1) ∧ Q (.ref l) H ∨ (xs ≠ [] ∧ k ≤ 0) ∧ ∀ p, H p = none → Q (.ref p) (upd H p (.tup [])))
theorem op_repS {X : Cx} : OpR X (binaryOp .Mult) (rRepS X.K) := by
  intro pins s σ H x y v u Q I rx ry h
  obtain ⟨l, k, xs, rfl, rfl, hT, h1, h2, h⟩ := h
  cases rx
  obtain ⟨t, rfl⟩ := ry
  obtain ⟨its, r, ⟨⟨cls, dd, data, sl⟩, ho, hc, n, hd⟩, hs⟩ := I.tuple hT
  simp only at hc hd
  subst hc hd
  have hle : its.length = xs.length := r.length.symm
  have c0 : (decide (k < -(2 ^ 63)) || decide (k ≥ 2 ^ 63)) = false := by
    rw [decide_eq_false (by omega), decide_eq_false (by omega)] <;> rfl
  have emp : its.toArray.isEmpty = xs.isEmpty := by
    cases r <;> rfl
  rcases h with ⟨hc, q⟩ | ⟨⟨hn, hk⟩, q⟩
  · have c1 : (its.toArray.isEmpty || k == 1) = true := by
      rw [emp]
      rcases hc with rfl | rfl
      · rfl
      · simp
    refine wpAny_binaryOp_repeat_ref (T := "tuple") (U := "int") (by decide) ⟨_, ho, rfl⟩ (fun s' => typeIs_int s' k t) noFill_tuple_mul F.fills_int_mul F.slot_int_rmul repeat_tuple F.slot_int_index.lookup
      (call_meets F.slot_int_rmul (typeIs_int s k t) F.entry_int_rmul (F.args_int_rmul_2 _ _) (int_rmul_tuple k t l its.toArray n dd sl)
        ⟨ho, rfl, ⟨_, ho, rfl⟩, call_meets F.slot_tuple_mul ⟨_, ho, rfl⟩ F.entry_tuple_mul (F.args_tuple_mul_2 _ _) (tmul_same l its.toArray n dd sl k t c0 c1) ⟨ho, ?_⟩⟩)
    exact ⟨.ref l, H, I, rfl, q⟩
  · have c1 : (its.toArray.isEmpty || k == 1) = false := by
      rw [emp]
      cases xs with
      | nil => exact absurd rfl hn
      | cons _ _ => exact beq_eq_false_iff_ne.mpr (by omega)
    have c2 : (decide (k ≤ 0) || its.toArray.isEmpty) = true := by
      rw [decide_eq_true hk]
      rfl
    refine wpAny_binaryOp_repeat_ref (T := "tuple") (U := "int") (by decide) ⟨_, ho, rfl⟩ (fun s' => typeIs_int s' k t) noFill_tuple_mul F.fills_int_mul F.slot_int_rmul repeat_tuple F.slot_int_index.lookup
      (call_meets F.slot_int_rmul (typeIs_int s k t) F.entry_int_rmul (F.args_int_rmul_2 _ _) (int_rmul_tuple k t l its.toArray n dd sl)
        ⟨ho, rfl, ⟨_, ho, rfl⟩, call_meets F.slot_tuple_mul ⟨_, ho, rfl⟩ F.entry_tuple_mul (F.args_tuple_mul_2 _ _) (tmul_none l its.toArray n dd sl k t c0 c1 c2) ⟨ho, ?_⟩⟩)
    refine ⟨.ref s.heap.objs.size, _, I.laid (t' := s.toks) (o := .tup []) (fun b ob z => Heap.get?_push_of_some _ z) (Nat.le_refl _) ?_, rfl, q _ (I.hok.fresh (Nat.le_refl _))⟩
    exact ⟨Nat.zero_le _, [], .nil, PyProof.Rows.IsTup.new _ _⟩
def gMuls : D → D → Option D
  | .int a, .int b => gMul (.int a) (.int b)
  | .tuple ds, .int k => if -(2 ^ 63) ≤ k ∧ k < 2 ^ 63 then (if ds.isEmpty = true ∨ k = 1 then some (.tuple ds) else if k ≤ 0 then some (.tuple []) else none) else none
  | .list ds, .int k => if 0 ≤ k ∧ k ≤ 1000 ∧ ds.length ≤ 1000 then some (.list (List.replicate k.toNat ds).flatten) else none
  | _, _ => none
def rMulI : R2 := rI CMul fun i j => .int (i * j)
def rMuls (K : Fg) : R2 := fun x y H Q => rMulI x y H Q ∨ rRepS K x y H Q ∨ rRep x y H Q
theorem op_muls {X : Cx} : OpR X (binaryOp .Mult) (rMuls X.K) := OpR.or op_mul (OpR.or op_repS op_rep)
theorem DtA.rep {K : Fg} {F : Hp} {vs : List V} {ds : List D} (t : DtA K F vs ds) : ∀ n : Nat, DtA K F (List.replicate n vs).flatten (List.replicate n ds).flatten
  | 0 => .nil
  | n + 1 => by
    rw [List.replicate_succ, List.replicate_succ, List.flatten_cons, List.flatten_cons]
    exact t.append (t.rep n)
theorem ok_muls {K : Fg} : Ok2 K (rMuls K) gMuls := fun {B F H σ env x y a b d Q} S ha hb e k => by
  unfold gMuls at e
  split at e
  · exact .inl (ok_mul S ha hb e k)
  · rename_i ds n
    by_cases hc : -(2 ^ 63) ≤ n ∧ n < 2 ^ 63
    · rw [if_pos hc] at e
      obtain ⟨p, vs, rfl, f, hp, t⟩ := ha.tup S.fh
      refine .inr (.inl ⟨p, n, vs, rfl, hb.int_inv, SqT.of hp, hc.1, hc.2, ?_⟩)
      have he : ds.isEmpty = vs.isEmpty := by cases t <;> rfl
      by_cases h1 : ds.isEmpty = true ∨ n = 1
      · rw [if_pos h1] at e
        cases e
        refine .inl ⟨?_, k _ F H S (Sub.refl _) (.tup f t)⟩
        rcases h1 with h1 | h1
        · rw [he] at h1; exact .inl (List.isEmpty_iff.mp h1)
        · exact .inr h1
      · rw [if_neg h1] at e
        by_cases h2 : n ≤ 0
        · rw [if_pos h2] at e
          cases e
          refine .inr ⟨⟨fun z => h1 (.inl (by rw [he, z]; rfl)), h2⟩, fun r hr => k _ _ _ (S.new hr) (S.subNew hr) (.tup upd_same .nil)⟩
        · rw [if_neg h2] at e; cases e
    · rw [if_neg hc] at e; cases e
  · rename_i ds n
    by_cases hc : 0 ≤ n ∧ n ≤ 1000 ∧ ds.length ≤ 1000
    · rw [if_pos hc] at e
      cases e
      obtain ⟨p, vs, rfl, hp, t⟩ := ha.lst S.fh
      refine .inr (.inr ⟨p, n, vs, rfl, hb.int_inv, hp, by omega, by omega, ?_, fun r hr => k _ _ _ (S.new hr) (S.subNew hr) (.lst upd_same ((t.rep _).mono (S.subNew hr)))⟩)
      have h1 : vs.length * n.toNat ≤ 1000 * 1000 := Nat.mul_le_mul (by rw [t.length]; exact hc.2.2) (by omega)
      exact Nat.le_trans h1 (by decide)
    · rw [if_neg hc] at e; cases e
  · cases e

/-! ### repr -/
mutual
/-- no script in it, no dict with keys that are tuples -/
def noScr : D → Bool
  | .list ds => noScrs ds
  | .tuple ds => noScrs ds
  | .dict es => noScrK es
  | _ => true
def noScrs : List D → Bool
  | [] => true
  | d :: ds => noScr d && noScrs ds
def noScrK : List (D × D) → Bool
  | [] => true
  | (.int _, d) :: ds => noScr d && noScrK ds
  | (.str _, d) :: ds => noScr d && noScrK ds
  | _ :: _ => false
end
mutual
def noLst : D → Bool
  | .list _ => false
  | .tuple ds => noLsts ds
  | .dict es => noLstK es
  | _ => true
def noLsts : List D → Bool
  | [] => true
  | d :: ds => noLst d && noLsts ds
def noLstK : List (D × D) → Bool
  | [] => true
  | e :: ds => noLst e.2 && noLstK ds
end
section
variable {X : Cx} {pins : List (Addr × Obj)} {σ : L2.St} {F H : Hp} {s : Shared}
theorem key_reads {h : Heap} {k : Key} {u : Value} (e : keyIs k u = true) : Reads h u (kD k) [] := by
  rcases keyIs_shape e with ⟨i, t, rfl, rfl⟩ | ⟨x, t, rfl, rfl⟩
  · exact .int i t
  · exact .str x t
/-- what is told of the addresses -/
def NoSys (b : Bool) (as : List Addr) : Prop := b = true → sysModules ∉ as
mutual
theorem Dt.reads (I : Inv X pins σ H s) (l : Lk F H) : ∀ {v : V} {d : D} {u : Value}, Dt X.K F v d → RelV v u → noScr d = true → ∃ as, Reads s.heap u d as ∧ NoSys (noLst d) as
  | _, _, _, .non, r, _ => by cases r; exact ⟨[], .none, fun _ z => nomatch z⟩
  | _, _, _, .bl b, r, _ => by cases r; exact ⟨[], .bool b, fun _ z => nomatch z⟩
  | _, _, _, .int i, r, _ => by obtain ⟨t, rfl⟩ := r; exact ⟨[], .int i t, fun _ z => nomatch z⟩
  | _, _, _, .str i, r, _ => by obtain ⟨t, rfl⟩ := r; exact ⟨[], .str i t, fun _ z => nomatch z⟩
  | _, _, _, .lst h t, r, n => by
    cases r
    obtain ⟨_, its, m, rv, e⟩ := I.hok _ _ (l.lst h)
    obtain ⟨as, hr, _⟩ := t.reads I l rv (by simpa [noScr] using n)
    exact ⟨_, .list e rfl rfl (by simpa using hr), fun z => by simp [noLst] at z⟩
  | _, _, _, .tup h t, r, n => by
    cases r
    obtain ⟨_, its, rv, o, e, ec, m, ed⟩ := I.hok _ _ (l.tup h)
    obtain ⟨as, hr, hn⟩ := t.reads I l rv (by simpa [noScr] using n)
    exact ⟨_, .tuple e ec ed (by simpa using hr), fun z => hn (by simpa [noLst] using z)⟩
  | _, _, _, .scr h, r, n => by simp [noScr, noScrK] at n
  | _, _, _, .dk h t, r, n => by
    cases r
    obtain ⟨_, hs, vs, kv, o, es, ep, e, ec, ed, _, hp, _⟩ := dk_rd I.hok (l.rd (.inl h))
    obtain ⟨as, bs, h1, h2, h3⟩ := t.reads I l kv hp (by simpa [noScr] using n)
    refine ⟨_, .dict e ec.1 ed h1 h2, fun z hm => ?_⟩
    rcases List.mem_cons.mp hm with q | q
    · rw [← q] at hs; simp at hs
    · exact h3 (by simpa [noLst] using z) q
  | _, _, _, .dt h t, r, n => by
    cases r
    cases t with
    | cons _ _ => simp [noScr, noScrK] at n
    | nil =>
      rcases l _ _ h with h | ⟨z, _⟩
      · obtain ⟨_, hs, xs, kv, o, es, ep, e, ec, ed, he, _⟩ := I.hok _ _ h
        cases kv
        have e0 : es.toList = [] := he
        refine ⟨_, .dict (kvs := []) (as := []) (bs := []) e ec.1 ed (by rw [e0]; exact .nil) (by rw [e0]; exact .nil), fun z hm => ?_⟩
        rcases List.mem_cons.mp hm with q | q
        · rw [← q] at hs; simp at hs
        · cases q
      · exact absurd rfl z
theorem DtA.reads (I : Inv X pins σ H s) (l : Lk F H) : ∀ {vs : List V} {ds : List D} {us : List Value}, DtA X.K F vs ds → Vals vs us → noScrs ds = true → ∃ as, ReadsAll s.heap us ds as ∧ NoSys (noLsts ds) as
  | _, _, _, .nil, .nil, _ => ⟨[], .nil, fun _ z => nomatch z⟩
  | _, _, _, .cons h t, .cons r rr, n => by
    simp only [noScrs, Bool.and_eq_true] at n
    obtain ⟨as, h1, h2⟩ := h.reads I l r n.1
    obtain ⟨bs, h3, h4⟩ := t.reads I l rr n.2
    refine ⟨_, .cons h1 h3, fun z hm => ?_⟩
    simp only [noLsts, Bool.and_eq_true] at z
    rcases List.mem_append.mp hm with q | q
    · exact h2 z.1 q
    · exact h4 z.2 q
theorem DtK.reads (I : Inv X pins σ H s) (l : Lk F H) : ∀ {kvs : List (Key × V)} {es : List (D × D)} {vs : List (Key × Value)} {en : List DictEntry}, DtK X.K F kvs es → KV kvs vs → Pairs (mixKind X.prog X.w) en vs → noScrK es = true →
    ∃ as bs, ReadsAll s.heap (en.map (·.key)) (es.map (·.1)) as ∧ ReadsAll s.heap (en.map (·.val)) (es.map (·.2)) bs ∧ NoSys (noLstK es) (as ++ bs)
  | _, _, _, _, .nil, .nil, .nil, _ => ⟨[], [], .nil, .nil, fun _ z => nomatch z⟩
  | (k, v) :: kvs, _, _, _, .cons (d := d) (ds := ds) h t, .cons r rr, .cons p1 p2 pp, n => by
    have n' : noScr d = true ∧ noScrK ds = true := by
      cases k <;> simpa [kD, noScrK] using n
    obtain ⟨e1, e2⟩ := r
    obtain ⟨as, h1, h2⟩ := h.reads I l e2 n'.1
    obtain ⟨cs, bs, h3, h4, h5⟩ := t.reads I l rr pp n'.2
    refine ⟨[] ++ cs, as ++ bs, .cons ?_ h3, .cons ?_ h4, fun z hm => ?_⟩
    · have e1 : k = _ := e1
      rw [e1]
      exact key_reads p1
    · dsimp only
      rw [p2]
      exact h1
    · simp only [noLstK, Bool.and_eq_true] at z
      rw [List.nil_append] at hm
      rcases List.mem_append.mp hm with q | q
      · exact h5 z.2 (List.mem_append_left _ q)
      · rcases List.mem_append.mp q with q | q
        · exact h2 z.1 q
        · exact h5 z.2 (List.mem_append_right _ q)
end
end
end DL

/-! DLk: repr, the law itself, enumerate, [::-1]. -/
namespace DL
open PySem L2

/-! ### repr -/
def reprOk (d : D) : Bool := noScr d && (d.showable && ((!d.hasDict || noLst d) && (decide (d.depth ≤ 60) && decide (d.shown.length ≤ 16000000))))
def gRepr : D → Option D := fun d => if reprOk d = true then some (.str d.shown) else none
def rRepr (K : Fg) : List V → Hp → VK → Prop := fun xs H Q => ∃ v d F, xs = [v] ∧ Lk F H ∧ Dt K F v d ∧ reprOk d = true ∧ Q (.str d.shown) H
section
variable {X : Cx} {e : Expr} {p pos : Pos} {k : Nat}
theorem call_reprD (hg : X.A.guards = some []) (hu : X.A.units + 64 < cLine) : CallR X (.builtin "repr") (rRepr X.K) := by
  intro pins s σ H xs us Q I r h
  obtain ⟨v, d, F, rfl, l, hd, ok, q⟩ := h
  obtain ⟨u, rfl, ru⟩ := vals1 r
  simp only [reprOk, Bool.and_eq_true, decide_eq_true_eq, Bool.or_eq_true] at ok
  obtain ⟨o1, o2, o3, o4, o5⟩ := ok
  have sz : d.shown.length ≤ sizeLine := Nat.le_trans o5 (by decide)
  have go : ∀ {a : Addr}, v = .ref a → wpAny (model X.prog X.w) X.A (call (.builtin "repr") [u]) (EP X pins σ Q) X.xe s := fun {a} ev => by
    subst ev
    obtain ⟨as, hr, hs⟩ := hd.reads I l ru o1
    cases ru
    refine repr_of_reads' hr o2 (fun hb => ?_) hg (by omega) (fun b o z => z) (fun h' t tk hk => ?_) sz
    · rcases o3 with o3 | o3
      · rw [hb] at o3; cases o3
      · exact hs o3
    · exact ⟨.str d.shown, H, I.kept hk, ⟨_, rfl⟩, q⟩
  cases hd with
  | non => cases ru; exact PySem.P.repr_of_none ⟨.str _, H, I.tok _, ⟨_, rfl⟩, by simpa [PyData.shown] using q⟩
  | bl b => cases ru; exact PySem.P.repr_of_bool ⟨.str _, H, I.tok _, ⟨_, rfl⟩, by simpa [PyData.shown] using q⟩
  | int i => obtain ⟨t, rfl⟩ := ru; exact PySem.P.repr_of_int (by simpa [PyData.showable] using o2) ⟨.str _, H, I.tok _, ⟨_, rfl⟩, by simpa [PyData.shown] using q⟩
  | str x => obtain ⟨t, rfl⟩ := ru; exact PySem.P.repr_of_str ⟨.str _, H, I.tok _, ⟨_, rfl⟩, by simpa [PyData.shown] using q⟩ (by simpa [PyData.shown] using sz)
  | lst _ _ => exact go rfl
  | tup _ _ => exact go rfl
  | scr _ => exact go rfl
  | dk _ _ => exact go rfl
  | dt _ _ => exact go rfl
theorem Lk.own {F H : Hp} {q : Addr} {o : HO} (l : Lk F H) (h : H q = some o) : Lk (upd F q o) H := fun a u e => by
  by_cases z : a = q
  · subst z; rw [upd_same] at e; cases e; exact .inl h
  · rw [upd_ne z] at e; exact l a u e
theorem ok_repr {K : Fg} : Ok1 K (fun x H Q => rRepr K [x] H Q) gRepr := fun {B F H σ env x a d Q} S ha e k => by
  unfold gRepr at e
  split at e
  · rename_i h
    cases e
    rcases ha with ha | ⟨q, rfl, n, ho⟩
    · exact ⟨x, a, F, rfl, S.fh, ha, h, k _ F H S (Sub.refl _) (.str _)⟩
    · obtain ⟨o, hq, _⟩ := ho.some
      exact ⟨_, a, _, rfl, S.fh.own hq, ho.froze hq n, h, k _ F H S (Sub.refl _) (.str _)⟩
  · cases e
theorem de_repr {o : Opd} (gd : X.A.guards = some []) (hr : Room k X.A) (hg : Gl X "repr") (hm : X.mg "repr" = none) (ha : PE X e (tO X.K o)) (he : starEach [e] X.env = [(false, eval e X.env)] := by rfl) (hpl : (backTo pos (starEach [] X.env)).any (·.1) = false := by rfl) :
    PE X (.Call (.Name "repr" p) [e] [] pos) (tD X.K (op1 gRepr o)) :=
  PEi (pe_callB (call_reprD gd hr.units) hg hm (by decide +kernel) (pa_cons ha pa_nil he) (by decide) (by decide) he hpl) fun σ H Q h => op1_le ok_repr σ H Q h
end

/-! ### a def that is called where nothing is being shown -/
structure FnOkG (P : Program) (w : World) (K : Fg) (mg : Str → Option Value) (base : Heap) (k : Nat) (f : Addr) (fd : FuncData) (ps : List Str) (sp : Sp) : Prop where
  len : ∀ vs H Q E, sp vs H Q E → vs.length = ps.length
  run : ∀ (A : Around) (outer : List Env) (s : Shared) (H : Hp) (args : Args) (us : List Value) (vs : List V) (Q : VK) (E : XK), A.guards = some [] → Room k A → Env0 P w K mg base A outer s H → BindsTo s fd args (ps.zip us) → Vals vs us → sp vs H Q E →
    codeAny (model P w) A (.call (.ref f) args) (CR CX0 outer P w H s Q E) s
/-- a plain def of the text -/
abbrev FnP (K : Fg) (x : Str) (st : Stmt) (f : Addr) (fd : FuncData) : Prop := FunD K x x (defArgs st) (defBody st) (defScope st) [] [] f fd
theorem okP {P : Program} {w : World} {K : Fg} {mg : Str → Option Value} {base : Heap} {x : Str} {st : Stmt} {f : Addr} {fd : FuncData} {N ps : List Str} {k : Nat} {sp : Sp} (F : FnP K x st f fd) (S : FnScope N ps (defScope st)) (len : ∀ vs H Q E, sp vs H Q E → vs.length = ps.length)
    (body : ∀ (cdv : Value) (A : Around) (outer : List Env) (s : Shared) (H : Hp) (vs : List V) (Q : VK) (E : XK), Room k (A.deeper (PyProof.Rows.envOfC x (defScope st) s.heap.objs.size f cdv)) → sp vs H Q E →
      ∃ t, PSs (cxOf CX0 P w K mg base N x (defScope st) f cdv A outer s H E).nox (defBody st) t ∧ t { nx := fun _ H' => Q .non H', rt := Q } (L2.start N vs) H) : FnOk P w K mg base CX0 (k + 1) f fd ps sp :=
  F.ok S len fun cdv A outer s H vs Q E hr hsp => by
    obtain ⟨t, h, q⟩ := body cdv A outer s H vs Q E hr hsp
    exact ⟨t, h.nox, q⟩
theorem okG {P : Program} {w : World} {K : Fg} {mg : Str → Option Value} {base : Heap} {qual : Str} {st : Stmt} {f : Addr} {fd : FuncData} {N ps : List Str} {k : Nat} {sp : Sp} (F : FnP K qual st f fd) (S : FnScope N ps (defScope st)) (len : ∀ vs H Q E, sp vs H Q E → vs.length = ps.length)
    (body : ∀ (cdv : Value) (A : Around) (outer : List Env) (s : Shared) (H : Hp) (vs : List V) (Q : VK) (E : XK), (A.deeper (PyProof.Rows.envOfC qual (defScope st) s.heap.objs.size f cdv)).guards = some [] → Room k (A.deeper (PyProof.Rows.envOfC qual (defScope st) s.heap.objs.size f cdv)) → sp vs H Q E →
      ∃ t, PSs (cxOf CX0 P w K mg base N qual (defScope st) f cdv A outer s H E).nox (defBody st) t ∧ t { nx := fun _ H' => Q .non H', rt := Q } (L2.start N vs) H) : FnOkG P w K mg base (k + 1) f fd ps sp := by
  obtain ⟨oc, od, dV, kV, doc, pm, an, cdv, ct, osl, rfl, lk, hcd, _, _⟩ := F.ex
  refine ⟨len, fun A outer s H args us vs Q E gd hr e0 hb rv hsp => ?_⟩
  have inn : K.In s.heap := e0.mod.kin.keeps fun b o z => (e0.bs b o z).1
  have lim : s.heap.NoLimit := e0.mod.nolimit.keeps fun b o z => (e0.bs b o z).1
  refine codeAny_call_function hr.depth (inn _ _ lk) rfl S.co S.gen rfl (PySem.W.codeRec_of inn hcd) (hb _ _ _ _ ?_)
  refine wpAny_newFunctionEnv_cells S.kind (fun y hy => ?_) fun env he s1 x1 => ?_
  · obtain ⟨n, v⟩ := y
    rcases S.par n (List.of_mem_zip hy).1 with q | q
    · exact .inl q
    · exact .inr ⟨q, PySem.W.cellsFrom_some _ _ _ (.inl q)⟩
  subst he
  refine ⟨lim.keeps x1.toInCall.keep, codeAny_func ?_⟩
  obtain ⟨t, ht, hq⟩ := body cdv A outer s H vs Q E gd (hr.deeper _) hsp
  have I := inv_start (CX := CX0) (E := E) S hr.hd e0 (len _ _ _ _ hsp) rv x1
  refine wpAny_mono (ht.nox.run [] s1 (L2.start N vs) H _ I hq) (fun fl s' hs => ?_) fun _ _ z => z
  have fin : ∀ {σ' : L2.St} {H' : Hp} {v : V} {u : Value}, L2.Inv (cxOf CX0 P w K mg base N qual (defScope st) f cdv A outer s H E) [] σ' H' s' → RelV v u → Q v H' → CE outer P w H s Q u s' := fun {σ' H' v u} J r q => ⟨v, H', J.os, J.bare, J.base, J.hok, r, q⟩
  cases fl with
  | ret u => obtain ⟨v, σ', H', J, r, q⟩ := hs; exact fin J r q
  | next => obtain ⟨σ', H', J, q⟩ := hs; exact fin (v := V.non) (u := Value.none) J rfl q
  | brk => obtain ⟨_, _, _, q⟩ := hs; exact q.elim
  | cont => obtain ⟨_, _, _, q⟩ := hs; exact q.elim
end DL

/-! DLl: enumerate, [::-1], the end. -/
namespace DL
open PySem L2

/-! ### enumerate -/
def numbered : Nat → List D → List D
  | _, [] => []
  | n, d :: ds => .tuple [.int (n : Nat), d] :: numbered (n + 1) ds
theorem numbered_get : ∀ {n : Nat} {ds : List D} {i : Nat} {d : D}, (numbered n ds)[i]? = some d → ∃ x, ds[i]? = some x ∧ d = .tuple [.int ((n + i : Nat) : Int), x]
  | n, [], i, d, h => by simp [numbered] at h
  | n, x :: ds, 0, d, h => by simp [numbered] at h; exact ⟨x, rfl, h.symm⟩
  | n, x :: ds, i + 1, d, h => by
    obtain ⟨y, h1, h2⟩ := numbered_get (n := n + 1) (ds := ds) (i := i) (d := d) h
    exact ⟨y, h1, by rw [h2, Nat.add_right_comm]; rfl⟩
theorem numbered_len : ∀ (n : Nat) (ds : List D), (numbered n ds).length = ds.length
  | _, [] => rfl
  | n, _ :: ds => congrArg Nat.succ (numbered_len (n + 1) ds)
theorem walks_enum {K : Fg} {F : Hp} {a : Addr} {vs : List V} {ds : List D} (ha : F a = some (.lst vs)) (ta : DtA K F vs ds) : Walks K (Ite K a) F (numbered 0 ds) := fun {B F' H σ env} S s i => by
  have q1 : SqL K H a vs := SqL.of (S.fh.lst (s _ _ ha))
  refine ⟨fun d e => ?_, fun hl => ⟨vs, q1, by rw [ta.length]; rw [numbered_len] at hl; exact Nat.le_of_eq hl⟩⟩
  obtain ⟨x, e1, rfl⟩ := numbered_get e
  obtain ⟨v, h1, h2⟩ := ta.get e1
  refine ⟨⟨vs, v, q1, h1⟩, fun z H' y => ?_⟩
  obtain ⟨T, x', rfl, nT, rfl, f1⟩ := y
  have g1 := f1 vs q1
  rw [h1] at g1; cases g1
  rw [Nat.zero_add]
  exact ⟨_, S.new nT, S.subNew nT, .tup upd_same (.cons (.int _) (.cons (h2.mono (s.trans (S.subNew nT))) .nil))⟩
/-- over a tuple -/
def IteT (K : Fg) (a : Addr) : It :=
  ⟨fun i H => ∃ (xs : List V) (x : V), SqT K H a xs ∧ xs[i]? = some x, fun i H v H' => ∃ T x, v = .ref T ∧ H T = none ∧ H' = upd H T (.tup [.int (i : Nat), x]) ∧ ∀ xs, SqT K H a xs → xs[i]? = some x, fun i H => ∃ xs : List V, SqT K H a xs ∧ xs.length = i⟩
theorem walks_enumT {K : Fg} {F : Hp} {a : Addr} {vs : List V} {ds : List D} (ha : F a = some (.tup vs)) (ta : DtA K F vs ds) : Walks K (IteT K a) F (numbered 0 ds) := fun {B F' H σ env} S s i => by
  have q1 : SqT K H a vs := SqT.of (S.fh.tup (s _ _ ha))
  refine ⟨fun d e => ?_, fun hl => ⟨vs, q1, by rw [ta.length]; rw [numbered_len] at hl; exact hl⟩⟩
  obtain ⟨x, e1, rfl⟩ := numbered_get e
  obtain ⟨v, h1, h2⟩ := ta.get e1
  refine ⟨⟨vs, v, q1, h1⟩, fun z H' y => ?_⟩
  obtain ⟨T, x', rfl, nT, rfl, f1⟩ := y
  have g1 := f1 vs q1
  rw [h1] at g1; cases g1
  rw [Nat.zero_add]
  exact ⟨_, S.new nT, S.subNew nT, .tup upd_same (.cons (.int _) (.cons (h2.mono (s.trans (S.subNew nT))) .nil))⟩
/-- enumerate(v) begins -/
theorem enum_new {v : Value} {o : Obj} {H : Heap → Prop} (B : Begins v o H) : Meets (Builtin.«enumerate.__new__» ⟨[.type "enumerate", v], []⟩) (fun _ R s => H s.heap ∧ R (.ok (.ret (.ref (s.heap.push o).objs.size))) { s with heap := (s.heap.push o).push { cls := .type "enumerate", data := .fields #[.none, .bool false, .ref s.heap.objs.size, rawInt 0, .none, .none] } }) :=
  .of_wp fun prog w A R s h => by
    obtain ⟨hp, g, d, tk, os⟩ := s
    obtain ⟨h1, h⟩ := h
    have hsub := sub_enumerate
    have q1 : ∀ {A' : Around} {E : Value → Shared → Prop} {Q : Value → Shared → Prop}, Q (.ref hp.objs.size) ⟨hp.push o, g, d, tk, os⟩ → wpAny (model prog w) A' (pyIter v) Q E ⟨hp, g, d, tk, os⟩ := fun q => B.iter prog w _ _ ⟨hp, g, d, tk, os⟩ _ h1 q
    wp_walk using q1
    refine wpAny_stack_any fun st => wpAny_pure ?_
    split
    · rename_i c _ _ _ _ _
      cases (c == Value.type "enumerate") <;> (wp_walk using q1; exact ⟨_, rfl, h⟩)
    · wp_walk using q1
      exact ⟨_, rfl, h⟩
section
variable {P : Program} {w : World} {A : Around} {E : Value → Shared → Prop} {s : Shared}
theorem enum_tup {t : Addr} {items : Array Value} {Q : Value → Shared → Prop} (ht : s.heap.IsTuple t items)
    (h : ∀ h', IsEnum h' (s.heap.objs.size + 1) s.heap.objs.size 0 .none → h'.IsTupleIter s.heap.objs.size t 0 → h'.objs.size = s.heap.objs.size + 2 → (∀ b o, s.heap.get? b = some o → h'.get? b = some o) → Q (.ref (s.heap.objs.size + 1)) { s with heap := h' }) :
    wpAny (model P w) A (call (.type "enumerate") [.ref t]) Q E s := by
  refine callType_new F.called_enumerate (by decide) (F.typeCall_enumerate_1 _) (F.newCall_enumerate_1 _) (fun obj => F.args_object_init_2 obj _) F.entry_enumerate_new (enum_new (begins_tuple t items)) ⟨ht, ?_⟩
  have hz : (s.heap.push { cls := .type "tuple_iterator", data := .fields #[.ref t, .int 0 0] }).objs.size = s.heap.objs.size + 1 := Heap.size_push ..
  show _ ∧ _
  rw [hz]
  have he : IsEnum ((s.heap.push { cls := .type "tuple_iterator", data := .fields #[.ref t, .int 0 0] }).push { cls := .type "enumerate", data := .fields #[.none, .bool false, .ref s.heap.objs.size, rawInt 0, .none, .none] }) (s.heap.objs.size + 1) s.heap.objs.size 0 .none := by
    have z := Heap.get?_push_size (s.heap.push { cls := .type "tuple_iterator", data := .fields #[.ref t, .int 0 0] }) (o := { cls := .type "enumerate", data := .fields #[.none, .bool false, .ref s.heap.objs.size, rawInt 0, .none, .none] }) rfl
    rw [hz] at z
    exact z
  exact ⟨⟨_, he, rfl⟩, h _ he ⟨_, Heap.get?_push_of_some _ (Heap.get?_push_size _ rfl), rfl, rfl⟩ (by rw [Heap.size_push, hz]) fun b o x => Heap.get?_push_of_some _ (Heap.get?_push_of_some _ x)⟩
end
/-- its turns -/
theorem turn_enumT {P : Program} {w : World} {K : Fg} {elts : List Expr} {kk : Nat} {tpos : Pos} (a e it : Addr) (hne : e ≠ it) (hea : e ≠ a) (hia : a ≠ it) :
    Turn P w K (.Tuple elts kk tpos) (IteT K a) [e, it] e (fun i h => (∃ old, IsEnum h e it ((i : Nat) : Int) old) ∧ h.IsTupleIter it a i) where
  mem := by simp
  obj := fun i h st b hb => by
    obtain ⟨⟨old, he⟩, o, ho, hc, hd⟩ := st
    have e' : b = e ∨ b = it := by simpa using hb
    rcases e' with rfl | rfl
    · exact ⟨_, he, fun v q => nomatch q⟩
    · exact ⟨o, ho, fun v q => by rw [hd] at q; cases q⟩
  keep := fun i h h' st k => by
    obtain ⟨⟨old, he⟩, hi⟩ := st
    exact ⟨⟨old, k e (by simp) _ he⟩, hi.at fun o q => k it (by simp) o q⟩
  item := by
    intro X hP hw hK hc i pins s σ H E I hf st hg
    subst hP hw hK
    obtain ⟨⟨old, he⟩, hit⟩ := st
    obtain ⟨xs, x, hq, hx⟩ := hg
    obtain ⟨its, rv, p, hz⟩ := I.tuple hq
    obtain ⟨u, hu, ru⟩ := rv.get hx
    have hel : e < s.heap.objs.size := Heap.lt_size he
    have hil : it < s.heap.objs.size := by
      obtain ⟨_, q, _⟩ := hit
      exact Heap.lt_size q
    have hT0 : s.heap.IsTuple a its.toArray := p
    have hlt : i < its.toArray.size := by
      have := (List.getElem?_eq_some_iff.mp hu).1
      simpa using this
    refine wpAny_pyNext_enum_itemD (Draws.tuple (A := X.A.in1) (I.ok.hd hc) it a hia its.toArray) he ⟨hit, hT0⟩ hlt hne (by simp [hne, hea]) fun y h' tk hy ho hst hT hsz hk => ?_
    have ey : y = u := by
      have q : its[i]? = some y := by simpa using hy
      rw [hu] at q; cases q; rfl
    subst ey
    refine ⟨_, rfl, wpAny_letOwnedTupleGo_enum (s := { s with heap := h', toks := tk + 1 }) ho fun h2 he2 sb => ?_⟩
    have hT2 : h2.get? s.heap.objs.size = some { cls := .type "tuple", data := .seq #[.int i tk, y] } := (sb.2 _ (Nat.ne_of_gt hel)).trans hT
    have new : ObjOk X.prog X.w (upd H s.heap.objs.size (.tup [.int (i : Nat), x])) h2 s.heap.objs.size (.tup [.int (i : Nat), x]) :=
      ⟨by show 2 ≤ sizeLine; decide, [.int i tk, y], .cons ⟨_, rfl⟩ (.cons ru .nil), ⟨_, hT2, rfl, _, rfl⟩⟩
    have I1 : L2.Inv X pins σ (upd H s.heap.objs.size (.tup [.int (i : Nat), x])) { s with heap := h2, toks := tk + 1 } :=
      I.turnedNew (ch := [e, it]) (fun b ob hb q => (sb.2 b (fun z => hb (by simp [z]))).trans (hk b ob (fun z => hb (by simp [z])) (fun z => hb (by simp [z])) q)) hf (Nat.le_refl _) new
    refine ⟨.ref s.heap.objs.size, _, I1, rfl, ⟨_, x, rfl, I.hok.fresh (Nat.le_refl _), rfl, fun ys hy' => by rw [I.tuple_inj hy' hq]; exact hx⟩, ⟨⟨y, ?_⟩, hst.1.at fun o q => (sb.2 it (Ne.symm hne)).trans q⟩, fun b hb => ?_⟩
    · have e1 : ((i + 1 : Nat) : Int) = (i : Int) + 1 := by omega
      rw [e1]
      exact he2
    · have e' : b = e ∨ b = it := by simpa using hb
      have hb' : b < s.heap.objs.size := by rcases e' with rfl | rfl <;> assumption
      rw [upd_ne (Nat.ne_of_lt hb')]
      exact (hf b hb).1
  done := by
    intro X hP hw hK hc i pins s σ H E I hf st hg
    subst hP hw hK
    obtain ⟨⟨old, he⟩, hit⟩ := st
    obtain ⟨xs, hq, hx⟩ := hg
    obtain ⟨its, rv, p, hz⟩ := I.tuple hq
    have hT0 : s.heap.IsTuple a its.toArray := p
    have hn : its.toArray.size = i := by
      have := rv.length
      rw [List.size_toArray]
      omega
    obtain ⟨f0, f1, f2, f3, f4, f5⟩ := hf it (by simp)
    exact wpAny_pyNext_enum_endD (Draws.tuple (A := X.A.in1) (I.ok.hd hc) it a hia its.toArray) he ⟨by rw [hn]; exact hit, hT0⟩ fun h' eb => ⟨rfl, I.turned (t' := s.toks) (fun b o hb q => eb b o hb q) f0 f1 f3 f4 f5⟩
  self := fun A i s Q E st h => by
    obtain ⟨⟨_, he⟩, _⟩ := st
    exact wpAny_pyIter_enum he h
def iEnumT (K : Fg) (ta : TA) : TI := fun σ H R => ta σ H fun vs H1 => ∃ a xs, vs = [.ref a] ∧ SqT K H1 a xs ∧ R (IteT K a) H1
theorem pi_enumT {X : Cx} {e : Expr} {ta : TA} {p pos tpos : Pos} {elts : List Expr} {kk : Nat} (hg : Gl X "enumerate") (hm : X.mg "enumerate" = none) (ha : PA X [e] ta) (hs : starEach [e] X.env = [(false, eval e X.env)] := by rfl) :
    PI X (.Tuple elts kk tpos) (.Call (.Name "enumerate" p) [e] [] pos) (iEnumT X.K ta) := by
  refine ⟨fun pins s σ H R I h => ?_⟩
  refine PyProof.Rows.Call_ (ld_blt I hg hm PyProof.Rows.boot_enumerate (PyProof.Rows.callWith_type1 (thn (ha.run pos pins s σ H _ I h) fun us s1 ⟨vs, H1, I1, r1, q1⟩ => ?_) hs rfl))
  obtain ⟨a, xs, rfl, hq, q⟩ := q1
  obtain ⟨u, rfl, ru⟩ := vals1 r1
  cases ru
  obtain ⟨its, rv, p1, hz⟩ := I1.tuple hq
  have hT0 : s1.heap.IsTuple a its.toArray := p1
  have hal : a < s1.heap.objs.size := by
    obtain ⟨_, z, _⟩ := p1
    exact Heap.lt_size z
  refine enum_tup hT0 fun h' he hit hsz hk => wpAny_pyIter_enum he ?_
  have I2 : L2.Inv X pins σ H1 { s1 with heap := h' } := I1.kept (t' := s1.toks) hk
  refine ⟨s1.heap.objs.size + 1, [s1.heap.objs.size + 1, s1.heap.objs.size], _, _, H1, rfl, I2, turn_enumT a (s1.heap.objs.size + 1) s1.heap.objs.size (Nat.succ_ne_self _) (fun z => ?_) (Nat.ne_of_lt hal), ⟨⟨.none, he⟩, hit⟩, fun b hb => ?_, q⟩
  · exact absurd (z ▸ hal) (Nat.not_lt_of_le (Nat.le_succ _))
  · have e' : b = s1.heap.objs.size + 1 ∨ b = s1.heap.objs.size := by simpa using hb
    have hle : s1.heap.objs.size ≤ b := by
      rcases e' with rfl | rfl
      · exact Nat.le_succ _
      · exact Nat.le_refl _
    exact I1.fpOk hle (I1.hok.fresh hle)
def iEnL (f : Df) : If := fun env => (f env).bind fun r => match r.1 with
  | .list ds => some (numbered 0 ds, r.2)
  | _ => none
def iEnT (f : Df) : If := fun env => (f env).bind fun r => match r.1 with
  | .tuple ds => some (numbered 0 ds, r.2)
  | _ => none
section
variable {X : Cx} {e : Expr} {p pos tpos : Pos} {elts : List Expr} {kk : Nat}
theorem di_enumL {f : Df} (hg : Gl X "enumerate") (hm : X.mg "enumerate" = none) (h : PE X e (tD X.K f)) (hs : starEach [e] X.env = [(false, eval e X.env)] := by rfl) : PI X (.Tuple elts kk tpos) (.Call (.Name "enumerate" p) [e] [] pos) (iD X.K (iEnL f)) :=
  PIi (pi_enum hg hm (pa_cons h pa_nil hs) hs) fun σ H R ⟨B, F, env, ds, env', S, ef, k⟩ => by
    obtain ⟨⟨d, e1⟩, q, ef⟩ := bd ef
    cases d <;> first | (cases ef; done) | skip
    cases ef
    refine ⟨B, F, env, _, _, S, q, fun v F' H' S' s' hd => ?_⟩
    cases hd with
    | lst hq hd => exact ⟨_, _, rfl, SqL.of (S'.fh.lst hq), k _ F' H' S' s' (walks_enum hq hd)⟩
theorem di_enumT {f : Df} (hg : Gl X "enumerate") (hm : X.mg "enumerate" = none) (h : PE X e (tD X.K f)) (hs : starEach [e] X.env = [(false, eval e X.env)] := by rfl) : PI X (.Tuple elts kk tpos) (.Call (.Name "enumerate" p) [e] [] pos) (iD X.K (iEnT f)) :=
  PIi (pi_enumT hg hm (pa_cons h pa_nil hs) hs) fun σ H R ⟨B, F, env, ds, env', S, ef, k⟩ => by
    obtain ⟨⟨d, e1⟩, q, ef⟩ := bd ef
    cases d <;> first | (cases ef; done) | skip
    cases ef
    refine ⟨B, F, env, _, _, S, q, fun v F' H' S' s' hd => ?_⟩
    cases hd with
    | tup hq hd => exact ⟨_, _, rfl, SqT.of (S'.fh.tup hq), k _ F' H' S' s' (walks_enumT hq hd)⟩
end
end DL

/-! DLm: [::-1], the end of a law. -/
namespace DL
open PySem PySem.Spec PyProof.Rows L2

/-! ### x[::-1] -/
theorem rev_adjust (n : Nat) : Builtin.Slice.sliceAdjust none none (-1) (n : Int) = ((n : Int) - 1, -1) := by
  unfold Builtin.Slice.sliceAdjust
  simp
theorem rev_places (n : Nat) : Builtin.Slice.slicePlaces ((n : Int) - 1) (-1) (-1) = n := by
  unfold Builtin.Slice.slicePlaces
  simp
  split <;> omega
theorem rev_pick (xs : Array Value) : ((List.range xs.size).filterMap fun (m : Nat) => xs[(((xs.size : Nat) : Int) - 1 + (m : Int) * (-1)).toNat]?).toArray = xs.toList.reverse.toArray := by
  have e : (fun (m : Nat) => xs[(((xs.size : Nat) : Int) - 1 + (m : Int) * (-1)).toNat]?) = (fun j => xs[j]?) ∘ (fun m => xs.size - 1 - m) := by
    funext m
    show _ = xs[xs.size - 1 - m]?
    have : (((xs.size : Nat) : Int) - 1 + (m : Int) * (-1)).toNat = xs.size - 1 - m := by omega
    rw [this]
  rw [e, ← List.filterMap_map, PySem.W.krv_range, List.filterMap_reverse, PySem.W.krv_all]
section
variable {prog : Program} {w : World} {A : Around} {E : Value → Shared → Prop} {s : Shared}
theorem rev_applied {sl : Addr} {vs : Value} {n : Nat} {Q : Int × Int × Nat → Shared → Prop} (hs : s.heap.IsSliceOf sl .none .none vs) (ps : IsPart vs (some (-1))) (h : Q ((n : Int) - 1, -1, n) s) : wpAny (model prog w) A (Builtin.Slice.sliceApplied (.ref sl) (pure (n : Int))) Q E s := by
  obtain ⟨os, hos, hcs, hds⟩ := id hs
  unfold Builtin.Slice.sliceApplied Builtin.Slice.sliceFields
  refine wpAny_bind (wpAny_bind (wpAny_field hos hds (x := .none) rfl (wpAny_bind (wpAny_field hos hds (x := .none) rfl (wpAny_bind (wpAny_field hos hds (x := vs) rfl (wpAny_pure ?_)))))))
  refine wpAny_bind (HT.slicePart_ ps ?_)
  show wpAny _ _ (if ((-1 : Int) == 0) = true then _ else _) _ _ s
  rw [if_neg (by decide)]
  refine wpAny_bind (HT.slicePart_ .none (wpAny_bind (HT.slicePart_ .none (wpAny_bind (wpAny_pure ?_)))))
  show wpAny _ _ (match Builtin.Slice.sliceAdjust none none (-1) (n : Int) with | (lo, hi) => pure (lo, (-1 : Int), Builtin.Slice.slicePlaces lo hi (-1))) _ _ s
  rw [rev_adjust]
  show wpAny _ _ (pure ((n : Int) - 1, (-1 : Int), Builtin.Slice.slicePlaces ((n : Int) - 1) (-1) (-1))) _ _ s
  rw [rev_places]
  exact wpAny_pure h
theorem rev_tuple {t sl : Addr} {items : Array Value} {vs : Value} {Q : Value → Shared → Prop} (ht : PyProof.Rows.IsTup s.heap t items) (hs : s.heap.IsSliceOf sl .none .none vs) (ps : IsPart vs (some (-1)))
    (h : Q (.ref s.heap.objs.size) { s with heap := s.heap.push { cls := .type "tuple", data := .seq items.toList.reverse.toArray } }) (hsz : items.size ≤ sizeLine) : wpAny (model prog w) A (getItem (.ref t) (.ref sl)) Q E s := by
  have ok : sizeOk (.seq items.toList.reverse.toArray) := by
    show items.toList.reverse.toArray.size ≤ sizeLine
    rw [List.size_toArray, List.length_reverse, Array.length_toList]
    exact hsz
  obtain ⟨os, hos, hcs, hds⟩ := id hs
  have hTs : s.TypeIs (.ref sl) "slice" := ⟨os, hos, hcs⟩
  unfold getItem
  try with_reducible refine wpAny_holding ?_
  first | refine wpAny_bind (wpAny_pure ?_) | skip
  refine wpAny_bind (wpAny_sequenceKey ht.typeIs (by decide) ?_)
  refine wpAny_bind (wpAny_callSpecial?_slot (name := Str.ofString "__getitem__") ht.typeIs PyProof.Rows.slot_tuple_getitem (wpAny_call_entry PyProof.Rows.slot_tuple_getitem ht.typeIs PyProof.Rows.entry_tuple_getitem ?_ (PyProof.Rows.args_tuple_getitem _ _)))
  show wpAny _ _ (Builtin.Tuple.tupleItemsOf (.ref t) >>= _) _ _ s
  refine wpAny_bind (PyProof.Rows.tupleItemsOf_ ht ?_)
  refine wpAny_bind (wpAny_typeOf hTs ?_)
  rw [if_pos (by decide)]
  refine wpAny_bind (rev_applied hs ps ?_)
  have no : ¬ ((((items.size : Nat) : Int) - 1 == 0 && (-1 : Int) == 1 && items.size == items.size) = true) := by simp
  show wpAny _ _ (if (((items.size : Nat) : Int) - 1 == 0 && (-1 : Int) == 1 && items.size == items.size) = true then _ else _) _ _ s
  rw [if_neg no, rev_pick]
  first
    | exact wpAny_bind (m := Builtin.Tuple.tupleExact _) (wpAny_newObj_type (wpAny_pure ⟨_, rfl, wpAny_pure h⟩) ok)
    | exact wpAny_bind (m := Builtin.Tuple.tupleExact _) (wpAny_newObj_type (wpAny_bind (wpAny_pure (wpAny_pure ⟨_, rfl, wpAny_pure h⟩))) ok)
    | exact wpAny_bind (wpAny_bind (m := Builtin.Tuple.tupleExact _) (wpAny_newObj_type (wpAny_pure (wpAny_pure ⟨_, rfl, wpAny_pure h⟩)) ok))
    | exact wpAny_bind (wpAny_bind (m := Builtin.Tuple.tupleExact _) (wpAny_newObj_type (wpAny_pure ⟨_, rfl, wpAny_pure h⟩) ok))
end
def tRevT (K : Fg) (te : TE) : TE := fun σ H Q => te σ H fun x H1 => ∃ a xs, x = .ref a ∧ ((SqL K H1 a xs ∧ ∀ p, H1 p = none → Q (.ref p) (upd H1 p (.lst xs.reverse))) ∨ (SqT K H1 a xs ∧ ∀ p, H1 p = none → Q (.ref p) (upd H1 p (.tup xs.reverse))))
section
variable {X : Cx} {e : Expr} {k : Nat} {p1 p2 p3 pos : Pos}
theorem pe_revT {te : TE} (he : PE X e te) : PE X (.Subscript e (.Slice none none (some (.UnaryOp .USub (.Constant (.int 1) k p1) p2)) p3) pos) (tRevT X.K te) := by
  refine ⟨fun pins s σ H Q I h => ?_⟩
  refine PyProof.Rows.Subscript_ (thn (he.run pins s σ H _ I h) fun v s1 ⟨x, H1, I1, r1, q1⟩ => ?_)
  obtain ⟨a, xs, rfl, q⟩ := q1
  cases r1
  have hst : PO X (some (.UnaryOp .USub (.Constant (.int 1) k p1) p2)) (tPart (tUn (rU fun i => .int (-i)) (tC (.int 1)))) := po_some (pe_un un_neg pe_int)
  refine wpAny_Slice (thn (po_none.run pins s1 σ H1 (fun o G => o = none ∧ G = H1) I1 ⟨rfl, rfl⟩) fun vl s2 ⟨l, H2, I2, pl, el, e2⟩ => ?_)
  subst el e2
  refine thn (po_none.run pins s2 σ H2 (fun o G => o = none ∧ G = H2) I2 ⟨rfl, rfl⟩) fun vu s3 ⟨u, H3, I3, pu, eu, e3⟩ => ?_
  subst eu e3
  refine thn (hst.run pins s3 σ H3 (fun o G => o = some (-1) ∧ G = H3) I3 ⟨1, rfl, -1, rfl, rfl, rfl⟩) fun vs s4 ⟨o, H4, I4, ps, eo, e4⟩ => ?_
  subst eo e4
  cases pl
  cases pu
  have I5 : L2.Inv X pins σ H4 { s4 with heap := s4.heap.push { cls := .type "slice", data := .fields #[.none, .none, vs] } } := I4.kept (t' := s4.toks) fun b ob q => Heap.get?_push_of_some _ q
  show wpAny (model X.prog X.w) X.A (subscriptTail e (.Slice none none (some (.UnaryOp .USub (.Constant (.int 1) k p1) p2)) p3) (.ref a) (.ref s4.heap.objs.size)) (EP X pins σ Q) X.xe { s4 with heap := s4.heap.push { cls := .type "slice", data := .fields #[.none, .none, vs] } }
  rcases q with ⟨hx, q⟩ | ⟨hx, q⟩
  · obtain ⟨its, r, ht, hz⟩ := I5.list hx
    have hlen := r.length
    refine PyProof.Rows.tail_any (ops := [.ref a, .ref s4.heap.objs.size]) ht.isList.typeIs (PySem.slot_list_getitem.lookup) ?_ (by with_unfolding_all rfl)
    refine wpAny_getItem_list_slice ht.isList (Heap.IsSliceOf.new _ .none .none vs) .none .none ps (by decide) ?_ (by rw [List.size_toArray]; omega)
    rw [PySem.W.krv_pick]
    exact ⟨.ref _, _, I5.laid (t' := s4.toks) (o := .lst xs.reverse) (fun b ob q => Heap.get?_push_of_some _ q) (Nat.le_refl _) ⟨by rw [List.length_reverse]; exact hz, _, 0, r.reverse, Heap.get?_push_size _ rfl⟩, rfl, q _ (I5.hok.fresh (Nat.le_refl _))⟩
  · obtain ⟨its, r, ht, hz⟩ := I5.tuple hx
    have hlen := r.length
    refine PyProof.Rows.tail_any (ops := [.ref a, .ref s4.heap.objs.size]) ht.typeIs (PyProof.Rows.slot_tuple_getitem.lookup) ?_ (by with_unfolding_all rfl)
    refine rev_tuple ht (Heap.IsSliceOf.new _ .none .none vs) ps ?_ (by rw [List.size_toArray]; omega)
    exact ⟨.ref _, _, I5.laid (t' := s4.toks) (o := .tup xs.reverse) (fun b ob q => Heap.get?_push_of_some _ q) (Nat.le_refl _) ⟨by rw [List.length_reverse]; exact hz, _, r.reverse, PyProof.Rows.IsTup.new _ _⟩, rfl, q _ (I5.hok.fresh (Nat.le_refl _))⟩
def gRev : D → Option D
  | .list ds => some (.list ds.reverse)
  | .tuple ds => some (.tuple ds.reverse)
  | _ => none
def gRevL : D → Option D
  | .list ds => some (.list ds.reverse)
  | _ => none
theorem de_rev {o : Opd} (ha : PE X e (tO X.K o)) : PE X (.Subscript e (.Slice none none (some (.UnaryOp .USub (.Constant (.int 1) k p1) p2)) p3) pos) (tD X.K (op1 gRev o)) :=
  PEi (pe_revT ha) fun σ H Q ⟨B, F, env, d, env', S, ef, kk⟩ => by
    obtain ⟨⟨u, e1⟩, q1, ef⟩ := bd ef
    obtain ⟨x, q2, ef⟩ := bd ef
    obtain ⟨d', q3, ef⟩ := bd ef
    cases ef
    refine ⟨B, F, env, u, _, S, q1, fun v F1 H1 S1 s1 h1 => ?_⟩
    have hx := h1.bv S1 q2
    unfold gRev at q3
    split at q3
    · cases q3
      obtain ⟨p, vs, rfl, hp, t⟩ := hx.lst S1.fh
      exact ⟨p, vs, rfl, .inl ⟨SqL.of hp, fun r hr => kk _ _ _ (S1.new hr) (s1.trans (S1.subNew hr)) (.lst upd_same (t.reverse.mono (S1.subNew hr)))⟩⟩
    · cases q3
      obtain ⟨p, vs, rfl, f, hp, t⟩ := hx.tup S1.fh
      exact ⟨p, vs, rfl, .inr ⟨SqT.of hp, fun r hr => kk _ _ _ (S1.new hr) (s1.trans (S1.subNew hr)) (.tup upd_same (t.reverse.mono (S1.subNew hr)))⟩⟩
    · cases q3
theorem de_revN {o : Opd} (ha : PE X e (tO X.K o)) : PE X (.Subscript e (.Slice none none (some (.UnaryOp .USub (.Constant (.int 1) k p1) p2)) p3) pos) (tN X.K (op1 gRevL o)) :=
  PEi (pe_revT ha) fun σ H Q ⟨B, F, env, d, env', S, ef, kk⟩ => by
    obtain ⟨⟨u, e1⟩, q1, ef⟩ := bd ef
    obtain ⟨x, q2, ef⟩ := bd ef
    obtain ⟨d', q3, ef⟩ := bd ef
    cases ef
    refine ⟨B, F, env, u, _, S, q1, fun v F1 H1 S1 s1 h1 => ?_⟩
    have hx := h1.bv S1 q2
    unfold gRevL at q3
    split at q3
    · cases q3
      obtain ⟨p, vs, rfl, hp, t⟩ := hx.lst S1.fh
      refine ⟨p, vs, rfl, .inl ⟨SqL.of hp, fun r hr => ?_⟩⟩
      have k2 : KN X.K B F1 σ _ _ Q := fun p' F' H' S' s' a1 a2 a3 a4 a5 => kk p' F' H' S' (s1.trans s') a1 a2 a3 a4 a5
      exact k2.at_new S1 hr ⟨_, upd_same, t.reverse⟩
    · cases q3
end

/-! ### the end -/
/-- the law's promise gives the row's walk: from the law's def, called by nobody -/
theorem law_callG {P : Program} {w : World} {K : Fg} {mg mb : Str → Option Value} {k : Nat} {fa a : Addr} {fd : FuncData} {x : Str} {sp : Sp} {s1 : Shared} {vs : List Value} {ns : List Int}
    (inn : K.In s1.heap) (hns : s1.heap.Ns mainGlobals mg) (hb : s1.heap.Ns builtinsNs mb) (hbb : ∀ y : Str, y ≠ "__name__" → mb y = bootBuiltins y) (hlim : s1.heap.NoLimit) (hg : s1.gens = #[])
    (ha : s1.heap.get? a = some { cls := .type "list", data := .seq vs.toArray }) (hi : IntsAre vs ns) (hl : ns.length ≤ sizeLine) (hr : Room k callerA)
    (G : ∀ base : Heap, K.In base → base.Ns mainGlobals mg → FnOkG P w K mg base k fa fd [x] sp) (bind : ∀ (s : Shared) (u : Value), BindsTo s fd ⟨[u], []⟩ [(x, u)])
    (hsp : ∀ H : Hp, Only H → SqL K H a (ns.map V.int) → sp [.ref a] H (fun v _ => v = .bl true) fun _ _ _ => False) :
    codeAny (model P w) callerA (.call (.ref fa) ⟨[.ref a], []⟩) (fun r s' => r = .ok (.ret (.bool true)) ∧ OldK s1.heap s'.heap ∧ s'.os = s1.os ∧ AllBare s'.gens) s1 := by
  have rv := vals_ints hi
  have lenV := hi.length
  have main : ∀ H : Hp, Only H → SqL K H a (ns.map V.int) → HOk P w H s1.heap → (∀ b, H b ≠ none → b = a ∧ K.lookup a = none) → codeAny (model P w) callerA (.call (.ref fa) ⟨[.ref a], []⟩) (fun r s' => r = .ok (.ret (.bool true)) ∧ OldK s1.heap s'.heap ∧ s'.os = s1.os ∧ AllBare s'.gens) s1 := by
    intro H hO hS hok hA
    have free : ∀ {b : Addr} {o : Obj} {es : Array DictEntry} {ep : Nat}, s1.heap.get? b = some o → o.data = .dict es ep → H b = none := fun {b o es ep} e d => by
      cases q : H b with
      | none => rfl
      | some u =>
        obtain ⟨rfl, _⟩ := hA b (by rw [q]; exact fun z => nomatch z)
        rw [ha] at e; cases e
        cases d
    have nsK : ∀ {b : Addr} {m : Str → Option Value}, s1.heap.Ns b m → (hidT s1.heap H).Ns b m := fun {b m} ⟨o, es, ep, e, d, r⟩ => ⟨o, es, ep, hidT_get e (free e d), d, r⟩
    have hK : K.In (hidT s1.heap H) := fun b o e => hidT_get (inn b o e) (by
      cases q : H b with
      | none => rfl
      | some u =>
        obtain ⟨rfl, hk⟩ := hA b (by rw [q]; exact fun z => nomatch z)
        rw [hk] at e; cases e)
    have lim' : (hidT s1.heap H).NoLimit := by
      obtain ⟨mc, h1, h2⟩ := hlim
      exact ⟨mc, nsK h1, h2⟩
    have e0 : Env0 P w K mg (hidT s1.heap H) callerA [] s1 H := ⟨rfl, ⟨hK, nsK hns, ⟨mb, nsK hb, hbb⟩, lim'⟩, fun b o e => of_hidT e, Nat.le_of_eq (hidT_size _ _), trivial, fun b hb => absurd (show b ∈ ([] : List Addr) from hb) (by simp), hok, .of_eq hg⟩
    refine codeAny_mono ((G _ hK (nsK hns)).run callerA [] s1 H ⟨[.ref a], []⟩ [.ref a] [.ref a] _ _ rfl hr e0 (bind s1 (.ref a)) (.cons rfl .nil) (hsp H hO hS)) fun r s' h => ?_
    cases r with
    | error e => exact h.elim
    | ok fl =>
      cases fl with
      | next => exact h.elim
      | brk => exact h.elim
      | cont => exact h.elim
      | ret u =>
        obtain ⟨v, H', os, bare, un, hok', r', q⟩ := h
        have q' : v = .bl true := q
        subst q'
        obtain rfl : u = Value.bool true := r'
        refine ⟨rfl, OldK.of_keep fun b o e => ?_, os, bare⟩
        rcases hO b with z | ⟨ob, xs, z⟩
        · exact un.keep b o e z (fun y => absurd (show b ∈ ([] : List Addr) from y) (by simp)) (by simp)
        · obtain ⟨e1, _⟩ := hok b _ z
          obtain ⟨e2, _⟩ := hok' b _ (un.frzs b ob _ z)
          rw [e] at e1; cases e1
          exact e2
  cases hk : K.lookup a with
  | some o =>
    have e := inn a o hk
    rw [ha] at e
    cases e
    exact main (fun _ => none) (fun _ => .inl rfl) (.inr ⟨_, vs.toArray, _, hk, rfl, rfl, rfl, by rw [List.size_toArray, lenV]; exact hl, by simpa using rv⟩) (fun b u z => by cases z) fun b z => absurd rfl z
  | none =>
    have sa : ∀ {b : Addr} {u : HO}, (fun b => if b = a then some (HO.frz { cls := .type "list", data := .seq vs.toArray } (.lst (ns.map V.int))) else none : Hp) b = some u → b = a ∧ u = HO.frz { cls := .type "list", data := .seq vs.toArray } (.lst (ns.map V.int)) := fun {b u} z => by
      by_cases hb : b = a
      · have z' := (if_pos hb).symm.trans z
        cases z'
        exact ⟨hb, rfl⟩
      · have z' := (if_neg hb).symm.trans z
        cases z'
    refine main (fun b => if b = a then some (.frz { cls := .type "list", data := .seq vs.toArray } (.lst (ns.map V.int))) else none) (fun b => ?_) (.inl (.inr ⟨{ cls := .type "list", data := .seq vs.toArray }, if_pos rfl⟩)) (fun b u z => ?_) fun b z => ?_
    · by_cases hb : b = a
      · exact .inr ⟨_, _, if_pos hb⟩
      · exact .inl (if_neg hb)
    · obtain ⟨rfl, rfl⟩ := sa z
      exact ⟨ha, by rw [List.length_map]; exact hl, vs, _, rv, ha⟩
    · by_cases hb : b = a
      · exact ⟨hb, hk⟩
      · exact absurd (if_neg hb) z
/-- the goal that the head leaves -/
theorem walkG {l : PySem.W.OpenLaw} {n k : Nat} {q : Program} {loose : List Str} {XP : (Str → Option Value) → Heap → Prop} {YP : World → Heap → Prop} {d : DefRec} {x : Str}
    (hn : l.most = some n) (hn2 : n ≤ sizeLine) (hdf : d.params.defaults = []) (hr : Room k callerA)
    (G : ∀ (w : World) (mg : Str → Option Value) (fa : Addr) (h : Heap), YP w h → h.Ns mainGlobals mg → mg d.name = some (.ref fa) →
      ∃ (K : Fg) (fd : FuncData) (sp : Sp), K.In h ∧ (∀ (s : Shared) (u : Value), BindsTo s fd ⟨[u], []⟩ [(x, u)]) ∧ (∀ (H : Hp) (a : Addr) (ns : List Int), ns.length ≤ n → Only H → SqL K H a (ns.map V.int) → sp [.ref a] H (fun v _ => v = .bl true) fun _ _ _ => False) ∧
        ∀ base : Heap, K.In base → base.Ns mainGlobals mg → FnOkG l.prog w K mg base k fa fd [x] sp) : PySem.W.WalkO q loose XP YP l.row.toRowW d [] (fun f vs => PySem.call f vs) := by
  refine Att.attach_call hn hdf fun w s0 s1 mg mb fa o pm cd doc a vs ns Gr Y ho hd hcd hmg hobj hints hlen hg => ?_
  obtain ⟨K, fd, sp, inn, hb, hsp, hF⟩ := G w mg fa _ Y Gr.T.g hmg
  exact law_callG inn Gr.T.g Gr.T.b Gr.T.builtins Gr.T.nolimit hg hobj hints (Nat.le_trans hlen hn2) hr hF hb fun H hO hS => hsp H a ns hlen hO hS
/-- what is to be shown of a law's data: it comes to True -/
theorem spD_law {K : Fg} {g : List D → Option (D × List D)} {ns : List Int} {H : Hp} {a : Addr} (h : g [.dict [(.none, .list (ns.map .int))]] = some (.bool true, [])) (hO : Only H) (hS : SqL K H a (ns.map V.int)) : spD K [false] false g [.ref a] H (fun v _ => v = .bl true) fun _ _ _ => False :=
  ⟨H, _, _, [], [], (Sub.refl H).lk, .fz (.scr hS) .nil, fun _ _ _ z => (nomatch z), h, fun v F' H' _ _ _ _ _ r => (r : Dt K F' v (.bool true)).bool_inv⟩
end DL

/-! DP: evaluation of bodies as plain functions; no program here. -/
namespace DL
open PySem L2
theorem isi_def (U : String) (d : D) (h : plainTy d = true) : gIsi U d = some (.bool (isT (tyN d) U)) := by simp [gIsi, h]
theorem isi_int_int (i : Int) : gIsi "int" (.int i) = some (.bool true) := rfl
theorem isi_int_bool (i : Bool) : gIsi "int" (.bool i) = some (.bool true) := rfl
theorem isi_int_none : gIsi "int" .none = some (.bool false) := rfl
theorem isi_int_str (x : Str) : gIsi "int" (.str x) = some (.bool false) := rfl
theorem isi_int_list (x : List D) : gIsi "int" (.list x) = some (.bool false) := rfl
theorem isi_int_tuple (x : List D) : gIsi "int" (.tuple x) = some (.bool false) := rfl
theorem isi_int_dict0 : gIsi "int" (.dict []) = some (.bool false) := rfl
theorem isi_bool_int (i : Int) : gIsi "bool" (.int i) = some (.bool false) := rfl
theorem isi_bool_bool (i : Bool) : gIsi "bool" (.bool i) = some (.bool true) := rfl
theorem isi_bool_none : gIsi "bool" .none = some (.bool false) := rfl
theorem isi_bool_str (x : Str) : gIsi "bool" (.str x) = some (.bool false) := rfl
theorem isi_bool_list (x : List D) : gIsi "bool" (.list x) = some (.bool false) := rfl
theorem isi_bool_tuple (x : List D) : gIsi "bool" (.tuple x) = some (.bool false) := rfl
theorem isi_bool_dict0 : gIsi "bool" (.dict []) = some (.bool false) := rfl
theorem isi_tuple_int (i : Int) : gIsi "tuple" (.int i) = some (.bool false) := rfl
theorem isi_tuple_bool (i : Bool) : gIsi "tuple" (.bool i) = some (.bool false) := rfl
theorem isi_tuple_none : gIsi "tuple" .none = some (.bool false) := rfl
theorem isi_tuple_str (x : Str) : gIsi "tuple" (.str x) = some (.bool false) := rfl
theorem isi_tuple_list (x : List D) : gIsi "tuple" (.list x) = some (.bool false) := rfl
theorem isi_tuple_tuple (x : List D) : gIsi "tuple" (.tuple x) = some (.bool true) := rfl
theorem isi_tuple_dict0 : gIsi "tuple" (.dict []) = some (.bool false) := rfl
theorem isi_list_int (i : Int) : gIsi "list" (.int i) = some (.bool false) := rfl
theorem isi_list_bool (i : Bool) : gIsi "list" (.bool i) = some (.bool false) := rfl
theorem isi_list_none : gIsi "list" .none = some (.bool false) := rfl
theorem isi_list_str (x : Str) : gIsi "list" (.str x) = some (.bool false) := rfl
theorem isi_list_list (x : List D) : gIsi "list" (.list x) = some (.bool true) := rfl
theorem isi_list_tuple (x : List D) : gIsi "list" (.tuple x) = some (.bool false) := rfl
theorem isi_list_dict0 : gIsi "list" (.dict []) = some (.bool false) := rfl
theorem len_list (ds : List D) : gLen [.list ds] = some (.int ds.length) := rfl
theorem len_tuple (ds : List D) : gLen [.tuple ds] = some (.int ds.length) := rfl
theorem len_scr (ds : List D) : gLen [.dict [(.none, .list ds)]] = some (.int ds.length) := rfl
theorem ix_list_nat (ds : List D) (i : Int) : gIx (.list ds) (.int i) = atI ds i := rfl
theorem ix_tuple_nat (ds : List D) (i : Int) : gIx (.tuple ds) (.int i) = atI ds i := rfl
theorem ix_scr_nat (ds : List D) (i : Int) : gIx (.dict [(.none, .list ds)]) (.int i) = atI ds i := rfl
theorem add_int (a b : Int) : gAdd (.int a) (.int b) = some (.int (a + b)) := rfl
theorem add_tup (a b : List D) : gAdd (.tuple a) (.tuple b) = if a.length + b.length ≤ 100000 then some (.tuple (a ++ b)) else none := rfl
theorem add_lst (a b : List D) : gAdd (.list a) (.list b) = if a.length + b.length ≤ 100000 then some (.list (a ++ b)) else none := rfl
theorem sub_int (a b : Int) : gSub (.int a) (.int b) = some (.int (a - b)) := rfl
theorem muls_int (a b : Int) : gMuls (.int a) (.int b) = gInt2 (fun i j => (decide (-(2 ^ 64) < i) && decide (i < 2 ^ 64)) || (decide (-(2 ^ 64) < j) && decide (j < 2 ^ 64))) (fun i j => i * j) (.int a) (.int b) := rfl
theorem int2_int (C : Int → Int → Bool) (g : Int → Int → Int) (a b : Int) : gInt2 C g (.int a) (.int b) = if C a b = true then some (.int (g a b)) else none := rfl
theorem cmp_int (p : Int → Int → Bool) (a b : Int) : gCmp p (.int a) (.int b) = some (.bool (p a b)) := rfl
theorem shaped_int (a : Int) : SeqAt.shaped (.int a) = true := rfl
theorem shaped_bool (a : Bool) : SeqAt.shaped (.bool a) = true := rfl
theorem shaped_none : SeqAt.shaped .none = true := rfl
theorem noDct_int (a : Int) : noDct (.int a) = true := by simp [noDct]
theorem eq_int (a b : Int) : gEq (.int a) (.int b) = some (.bool (a == b)) := by
  simp [gEq, gEqq, noDct, shaped_int, PyData.eqv]
theorem ne_int (a b : Int) : gNe (.int a) (.int b) = some (.bool (!(a == b))) := by
  simp [gNe, gEqq, noDct, shaped_int, PyData.eqv]
theorem eq_bool (a b : Bool) : gEq (.bool a) (.bool b) = some (.bool (a == b)) := by
  simp [gEq, gEqq, noDct, shaped_bool, PyData.eqv]
theorem ne_bool (a b : Bool) : gNe (.bool a) (.bool b) = some (.bool (!(a == b))) := by
  simp [gNe, gEqq, noDct, shaped_bool, PyData.eqv]
theorem eq_str (a b : Str) : gEq (.str a) (.str b) = some (.bool (a == b)) := by
  unfold gEq gEqq
  split <;> simp [PyData.eqv]
theorem ne_str (a b : Str) : gNe (.str a) (.str b) = some (.bool (!(a == b))) := by
  unfold gNe gEqq
  split <;> simp [PyData.eqv]

/-! ### small data: at most n parts in each, at most k deep -/
def lv (n : Nat) : Nat → D → Bool
  | _, .none => true
  | _, .bool _ => true
  | _, .int i => decide (i.natAbs < 10 ^ 60)
  | _, .str x => PyData.strOk x && decide ((PyData.shown (.str x)).length ≤ 70)
  | k + 1, .list xs => decide (xs.length ≤ n) && xs.all (lv n k)
  | k + 1, .tuple xs => decide (xs.length ≤ n) && xs.all (lv n k)
  | _, _ => false
def lvL (n : Nat) : Nat → Nat
  | 0 => 70
  | k + 1 => n * (lvL n k + 2) + 73
structure LvOk (n k : Nat) (d : D) : Prop where
  scr : noScr d = true
  sho : d.showable = true
  nod : d.hasDict = false
  dep : d.depth ≤ k
  len : d.shown.length ≤ lvL n k
  lay : d.canLay0 = true
  nd : noDct d = true
  ty : plainTy d = true
structure LvAll (n k : Nat) (ds : List D) : Prop where
  scr : noScrs ds = true
  sho : PyData.showableAll ds = true
  nod : PyData.hasDictAll ds = false
  dep : PyData.depthAll ds ≤ k
  len : ((PyData.shownAll ds).map (·.length)).sum + 2 * ds.length ≤ ds.length * (lvL n k + 2)
  lay : PyData.canLayAll0 ds = true
  nd : noDcts ds = true
theorem LvAll.of {n k : Nat} : ∀ {ds : List D}, (∀ d ∈ ds, LvOk n k d) → LvAll n k ds
  | [], _ => ⟨rfl, rfl, rfl, Nat.zero_le _, by simp [PyData.shownAll], rfl, rfl⟩
  | d :: ds, h => by
    have a := h d List.mem_cons_self
    have b := LvAll.of (n := n) (k := k) (ds := ds) fun x hx => h x (List.mem_cons_of_mem _ hx)
    refine ⟨by simp [noScrs, a.scr, b.scr], by simp [PyData.showableAll, a.sho, b.sho], by simp [PyData.hasDictAll, a.nod, b.nod], Nat.max_le.mpr ⟨a.dep, b.dep⟩, ?_, by simp [PyData.canLayAll0, a.lay, b.lay], by simp [noDcts, a.nd, b.nd]⟩
    have h1 := a.len
    have h2 := b.len
    simp only [PyData.shownAll, List.map_cons, List.sum_cons, List.length_cons, Nat.add_mul] at h2 ⊢
    omega
theorem big62 {i : Int} (h : i.natAbs < 10 ^ 60) : (PyData.shown (.int i)).length ≤ 61 := by
  have e := int_text_length_le10 (k := 60) (by decide) h
  show (Str.ofString (toString i)).length ≤ 61
  rw [ofString_length]; exact e
theorem log62 {i : Int} (h : i.natAbs < 10 ^ 60) : i.natAbs.log2 < 1920 := by
  by_cases z : i.natAbs = 0
  · rw [z]; decide
  · exact (Nat.log2_lt z).mpr (Nat.lt_of_lt_of_le h (by decide +kernel))
theorem lvL_ge (n : Nat) : ∀ k : Nat, 70 ≤ lvL n k
  | 0 => Nat.le_refl _
  | k + 1 => by unfold lvL; omega
theorem lv_flat (n k : Nat) : LvOk n k .none := ⟨rfl, rfl, rfl, Nat.zero_le _, Nat.le_trans (by decide) (lvL_ge n k), rfl, rfl, rfl⟩
theorem lv_ok (n : Nat) : ∀ (k : Nat) (d : D), lv n k d = true → LvOk n k d
  | k, .none, _ => lv_flat n k
  | k, .bool b, _ => ⟨rfl, rfl, rfl, Nat.zero_le _, Nat.le_trans (by cases b <;> decide) (lvL_ge n k), rfl, rfl, rfl⟩
  | k, .int i, h => by
    have h : i.natAbs < 10 ^ 60 := by cases k <;> simpa [lv] using h
    exact ⟨rfl, by simpa [PyData.showable] using log62 h, rfl, Nat.zero_le _, Nat.le_trans (big62 h) (Nat.le_trans (by decide) (lvL_ge n k)), rfl, rfl, rfl⟩
  | k, .str x, h => by
    have h : PyData.strOk x = true ∧ (PyData.shown (.str x)).length ≤ 70 := by cases k <;> simpa [lv] using h
    exact ⟨rfl, rfl, rfl, Nat.zero_le _, Nat.le_trans h.2 (lvL_ge n k), h.1, rfl, rfl⟩
  | 0, .list xs, h => by simp [lv] at h
  | 0, .tuple xs, h => by simp [lv] at h
  | 0, .dict xs, h => by simp [lv] at h
  | k + 1, .dict xs, h => by simp [lv] at h
  | k + 1, .list xs, h => by
    simp only [lv, Bool.and_eq_true, decide_eq_true_eq, List.all_eq_true] at h
    have a := LvAll.of (n := n) (k := k) fun d hd => lv_ok n k d (h.2 d hd)
    refine ⟨by simp [noScr, a.scr], by simp [PyData.showable, a.sho], by simp [PyData.hasDict, a.nod], Nat.succ_le_succ a.dep, ?_, by simp [PyData.canLay0, a.lay], by simp [noDct, a.nd], rfl⟩
    have h1 := listText_len_le (PyData.shownAll xs)
    have h2 := PyData.shownAll_length xs
    have h3 := a.len
    have h4 : xs.length * (lvL n k + 2) ≤ n * (lvL n k + 2) := Nat.mul_le_mul_right _ h.1
    simp only [PyData.shown, lvL]
    omega
  | k + 1, .tuple xs, h => by
    simp only [lv, Bool.and_eq_true, decide_eq_true_eq, List.all_eq_true] at h
    have a := LvAll.of (n := n) (k := k) fun d hd => lv_ok n k d (h.2 d hd)
    refine ⟨by simp [noScr, a.scr], by simp [PyData.showable, a.sho], by simp [PyData.hasDict, a.nod], Nat.succ_le_succ a.dep, ?_, by simp [PyData.canLay0, a.lay], by simp [noDct, a.nd], rfl⟩
    have h1 := tupleText_len_le (PyData.shownAll xs)
    have h2 := PyData.shownAll_length xs
    have h3 := a.len
    have h4 : xs.length * (lvL n k + 2) ≤ n * (lvL n k + 2) := Nat.mul_le_mul_right _ h.1
    simp only [PyData.shown, lvL]
    omega
theorem LvOk.repr {n k : Nat} {d : D} (h : LvOk n k d) (hk : k ≤ 60) (hl : lvL n k ≤ 16000000) : gRepr d = some (.str d.shown) := by
  have e : reprOk d = true := by
    have := h.dep
    have := h.len
    simp [reprOk, h.scr, h.sho, h.nod]
    omega
  simp [gRepr, e]
theorem LvOk.shaped {n k : Nat} {d : D} (h : LvOk n k d) (hk : k ≤ 60) : SeqAt.shaped d = true := by
  have := h.dep
  simp [SeqAt.shaped, h.lay]
  omega
theorem LvOk.eq {n k m j : Nat} {d e : D} (h : LvOk n k d) (g : LvOk m j e) (hk : k ≤ 60) (hj : j ≤ 60) : gEq d e = some (.bool (PyData.eqv d e)) := by
  simp [gEq, gEqq, h.nd, g.nd, h.shaped hk, g.shaped hj]
theorem LvOk.ne {n k m j : Nat} {d e : D} (h : LvOk n k d) (g : LvOk m j e) (hk : k ≤ 60) (hj : j ≤ 60) : gNe d e = some (.bool (!PyData.eqv d e)) := by
  simp [gNe, gEqq, h.nd, g.nd, h.shaped hk, g.shaped hj]
theorem lv_mono {n m : Nat} (hn : n ≤ m) : ∀ (k : Nat) (d : D), lv n k d = true → ∀ j : Nat, k ≤ j → lv m j d = true
  | _, .none, _, j, _ => by cases j <;> rfl
  | _, .bool _, _, j, _ => by cases j <;> rfl
  | k, .int i, h, j, _ => by cases k <;> cases j <;> simpa [lv] using h
  | k, .str i, h, j, _ => by cases k <;> cases j <;> simpa [lv] using h
  | 0, .list xs, h, _, _ => by simp [lv] at h
  | 0, .tuple xs, h, _, _ => by simp [lv] at h
  | 0, .dict xs, h, _, _ => by simp [lv] at h
  | k + 1, .dict xs, h, _, _ => by simp [lv] at h
  | k + 1, .list xs, h, 0, hj => by omega
  | k + 1, .tuple xs, h, 0, hj => by omega
  | k + 1, .list xs, h, j + 1, hj => by
    simp only [lv, Bool.and_eq_true, decide_eq_true_eq, List.all_eq_true] at h ⊢
    exact ⟨by omega, fun d hd => lv_mono hn k d (h.2 d hd) j (by omega)⟩
  | k + 1, .tuple xs, h, j + 1, hj => by
    simp only [lv, Bool.and_eq_true, decide_eq_true_eq, List.all_eq_true] at h ⊢
    exact ⟨by omega, fun d hd => lv_mono hn k d (h.2 d hd) j (by omega)⟩
theorem repr_dict0 : gRepr (.dict []) = some (.str (PyData.shown (.dict []))) := by
  have e : reprOk (.dict []) = true := by decide +kernel
  simp [gRepr, e]
end DL

/-! DW: bodies run forward, step by step. -/
namespace DL
open PySem L2
def Wd (f : Df) (e : En) (Q : D → En → Prop) : Prop := ∃ d e', f e = some (d, e') ∧ Q d e'
def Wo (o : Opd) (e : En) (Q : OV → En → Prop) : Prop := ∃ u e', o.ev e = some (u, e') ∧ Q u e'
def Wb (f : Bf) (e : En) (Q : Bool → En → Prop) : Prop := ∃ b e', f e = some (b, e') ∧ Q b e'
def Wv (os : List Opd) (e : En) (Q : List OV → En → Prop) : Prop := ∃ us e', evs os e = some (us, e') ∧ Q us e'
def Wl (u : OV) (e : En) (Q : D → Prop) : Prop := ∃ d, u.look e = some d ∧ Q d
def Wk (us : List OV) (e : En) (Q : List D → Prop) : Prop := ∃ ds, looks us e = some ds ∧ Q ds
def Wx (x : Option D) (Q : D → Prop) : Prop := ∃ d, x = some d ∧ Q d
def We (x : Option En) (Q : En → Prop) : Prop := ∃ d, x = some d ∧ Q d
def Wy (x : Option (List D)) (Q : List D → Prop) : Prop := ∃ d, x = some d ∧ Q d
def Wf (x : Option (D × List D)) (Q : D → List D → Prop) : Prop := ∃ d os, x = some (d, os) ∧ Q d os
def Ws (f : Sf) (e : En) (Q : Rs → Prop) : Prop := ∃ r, f e = some r ∧ Q r
def Wi (f : If) (e : En) (Q : List D → En → Prop) : Prop := ∃ ds e', f e = some (ds, e') ∧ Q ds e'
def Wp (f : Pf) (e : En) (Q : Option Int → En → Prop) : Prop := ∃ ds e', f e = some (ds, e') ∧ Q ds e'
def Wc (b : Bool) (A B : Prop) : Prop := (b = true → A) ∧ (b = false → B)
section
variable {f g : Df} {a b c : Opd} {e : En} {i j : Nat} {d x y : D} {Q : D → En → Prop} {p q : Bf} {os : List Opd}
theorem wc_t {A B : Prop} (h : A) : Wc true A B := ⟨fun _ => h, nofun⟩
theorem wc_f {A B : Prop} (h : B) : Wc false A B := ⟨nofun, fun _ => h⟩
theorem wc_s {b : Bool} {A B : Prop} (h1 : b = true → A) (h2 : b = false → B) : Wc b A B := ⟨h1, h2⟩
theorem wd_var (h : e[i]? = some (.fz d)) (k : Q d e) : Wd (eVar i) e Q := ⟨d, e, by simp [eVar, h], k⟩
theorem wd_varO (h : e[i]? = some (.ow d)) (k : Q d (e.set i (.fz d))) : Wd (eVar i) e Q := ⟨d, _, by simp [eVar, h], k⟩
theorem wd_c (k : Q d e) : Wd (eC d) e Q := ⟨d, e, rfl, k⟩
theorem wo_ex {Q : OV → En → Prop} (h : Wd f e fun d e => Q (.fz d) e) : Wo (.ex f) e Q := by
  obtain ⟨d, e', h, k⟩ := h
  exact ⟨_, e', by simp [Opd.ev, h], k⟩
theorem wo_f {Q : OV → En → Prop} (h : e[i]? = some (.fz d)) (k : Q (.fz d) e) : Wo (.vr i) e Q := ⟨_, _, by simp [Opd.ev, slotV, h], k⟩
theorem wo_o {Q : OV → En → Prop} (h : e[i]? = some (.ow d)) (k : Q (.sl i) e) : Wo (.vr i) e Q := ⟨_, _, by simp [Opd.ev, slotV, h], k⟩
theorem wo_p {Q : OV → En → Prop} (h : e[i]? = some (.pw d)) (k : Q (.sl i) e) : Wo (.vr i) e Q := ⟨_, _, by simp [Opd.ev, slotV, h], k⟩
theorem wl_f {Q : D → Prop} (k : Q d) : Wl (.fz d) e Q := ⟨_, rfl, k⟩
theorem wl_s {Q : D → Prop} (h : slotD e[i]? = some d) (k : Q d) : Wl (.sl i) e Q := ⟨_, h, k⟩
theorem wv_nil {Q : List OV → En → Prop} (k : Q [] e) : Wv [] e Q := ⟨_, _, rfl, k⟩
theorem wv_cons {Q : List OV → En → Prop} (h : Wo a e fun u e => Wv os e fun us e => Q (u :: us) e) : Wv (a :: os) e Q := by
  obtain ⟨u, e1, h1, us, e2, h2, k⟩ := h
  exact ⟨_, _, by simp [evs, h1, h2], k⟩
theorem wk_nil {Q : List D → Prop} (k : Q []) : Wk [] e Q := ⟨_, rfl, k⟩
theorem wk_cons {Q : List D → Prop} {u : OV} {us : List OV} (h : Wl u e fun d => Wk us e fun ds => Q (d :: ds)) : Wk (u :: us) e Q := by
  obtain ⟨d, h1, ds, h2, k⟩ := h
  exact ⟨_, by simp [looks, h1, h2], k⟩
theorem wx_eq {o : Option D} {Q : D → Prop} (h : o = some d) (k : Q d) : Wx o Q := ⟨_, h, k⟩
theorem wx_if {p : Prop} [Decidable p] {o : Option D} {Q : D → Prop} (h : p) (k : Wx o Q) : Wx (if p then o else none) Q := by rw [if_pos h]; exact k
theorem wx_i2 {C : Int → Int → Bool} {h : Int → Int → Int} {m n : Int} {Q : D → Prop} (hc : C m n = true) (k : Q (.int (h m n))) : Wx (gInt2 C h (.int m) (.int n)) Q := ⟨_, by simp [int2_int, hc], k⟩
theorem wx_mul {m n : Int} {Q : D → Prop} (hc : (-18446744073709551616 < m ∧ m < 18446744073709551616) ∨ (-18446744073709551616 < n ∧ n < 18446744073709551616)) (k : Q (.int (m * n))) : Wx (gMuls (.int m) (.int n)) Q := by
  rw [muls_int]
  exact wx_i2 (by simp only [Bool.or_eq_true, Bool.and_eq_true, decide_eq_true_eq]; omega) k
theorem wx_pow {m n : Int} {Q : D → Prop} (hc : 0 ≤ n ∧ n ≤ 1000 ∧ m.natAbs < 18446744073709551616) (k : Q (.int (m ^ n.toNat))) : Wx (gPow (.int m) (.int n)) Q := wx_i2 (by simp only [Bool.and_eq_true, decide_eq_true_eq]; omega) k
theorem wx_mod {m n : Int} {Q : D → Prop} (hc : 0 < n) (k : Q (.int (m % n))) : Wx (gMod (.int m) (.int n)) Q := wx_i2 (decide_eq_true hc) k
theorem wx_div {m n : Int} {Q : D → Prop} (hc : 0 < n) (hl : n.natAbs.log2 < 9000) (k : Q (.int (m / n))) : Wx (gDiv (.int m) (.int n)) Q := wx_i2 (by simp [hc, hl]) k
theorem wx_addT {m n : List D} {Q : D → Prop} (hc : m.length + n.length ≤ 100000) (k : Q (.tuple (m ++ n))) : Wx (gAdd (.tuple m) (.tuple n)) Q := ⟨_, by simp [add_tup, hc], k⟩
theorem wx_addL {m n : List D} {Q : D → Prop} (hc : m.length + n.length ≤ 100000) (k : Q (.list (m ++ n))) : Wx (gAdd (.list m) (.list n)) Q := ⟨_, by simp [add_lst, hc], k⟩
theorem wx_eqI {m n : Int} {Q : D → Prop} (k : Q (.bool (m == n))) : Wx (gEq (.int m) (.int n)) Q := ⟨_, eq_int m n, k⟩
theorem wx_neI {m n : Int} {Q : D → Prop} (k : Q (.bool (!(m == n)))) : Wx (gNe (.int m) (.int n)) Q := ⟨_, ne_int m n, k⟩
theorem wx_eqB {m n : Bool} {Q : D → Prop} (k : Q (.bool (m == n))) : Wx (gEq (.bool m) (.bool n)) Q := ⟨_, eq_bool m n, k⟩
theorem wx_neB {m n : Bool} {Q : D → Prop} (k : Q (.bool (!(m == n)))) : Wx (gNe (.bool m) (.bool n)) Q := ⟨_, ne_bool m n, k⟩
theorem wx_eqS {m n : Str} {Q : D → Prop} (k : Q (.bool (m == n))) : Wx (gEq (.str m) (.str n)) Q := ⟨_, eq_str m n, k⟩
theorem wx_neS {m n : Str} {Q : D → Prop} (k : Q (.bool (!(m == n)))) : Wx (gNe (.str m) (.str n)) Q := ⟨_, ne_str m n, k⟩
theorem wx_lt {m n : Int} {Q : D → Prop} (k : Q (.bool (decide (m < n)))) : Wx (gLt (.int m) (.int n)) Q := ⟨_, rfl, k⟩
theorem wx_le {m n : Int} {Q : D → Prop} (k : Q (.bool (decide (m ≤ n)))) : Wx (gLe (.int m) (.int n)) Q := ⟨_, rfl, k⟩
theorem wx_gt {m n : Int} {Q : D → Prop} (k : Q (.bool (decide (n < m)))) : Wx (gGt (.int m) (.int n)) Q := ⟨_, rfl, k⟩
theorem wx_ge {m n : Int} {Q : D → Prop} (k : Q (.bool (decide (n ≤ m)))) : Wx (gGe (.int m) (.int n)) Q := ⟨_, rfl, k⟩
theorem atI_get {α : Type} {xs : List α} {i : Int} {x : α} (h0 : 0 ≤ i) (h : xs[i.toNat]? = some x) : atI xs i = some x := by
  obtain ⟨hi, _⟩ := List.getElem?_eq_some_iff.mp h
  have e : ixN xs.length i = some i.toNat := by
    unfold ixN
    rw [if_pos h0, if_pos (by omega)]
  simp [atI, e, h]
theorem wx_ixL {ds : List D} {i : Int} {Q : D → Prop} (h0 : 0 ≤ i) (h : ds[i.toNat]? = some d) (k : Q d) : Wx (gIx (.list ds) (.int i)) Q := ⟨_, atI_get h0 h, k⟩
theorem wx_ixT {ds : List D} {i : Int} {Q : D → Prop} (h0 : 0 ≤ i) (h : ds[i.toNat]? = some d) (k : Q d) : Wx (gIx (.tuple ds) (.int i)) Q := ⟨_, atI_get h0 h, k⟩
theorem wx_ixS {ds : List D} {i : Int} {Q : D → Prop} (h0 : 0 ≤ i) (h : ds[i.toNat]? = some d) (k : Q d) : Wx (gIx (.dict [(.none, .list ds)]) (.int i)) Q := ⟨_, atI_get h0 h, k⟩
theorem wq_isi {U : String} {x : D} {Q : D → Prop} (h : gIsi U x = some d) (k : Q d) : Wx (gIsi U x) Q := ⟨_, h, k⟩
theorem wq_len {xs : List D} {Q : D → Prop} (h : gLen xs = some d) (k : Q d) : Wx (gLen xs) Q := ⟨_, h, k⟩
theorem wq_ix {x y : D} {Q : D → Prop} (h : gIx x y = some d) (k : Q d) : Wx (gIx x y) Q := ⟨_, h, k⟩
theorem wq_add {x y : D} {Q : D → Prop} (h : gAdd x y = some d) (k : Q d) : Wx (gAdd x y) Q := ⟨_, h, k⟩
theorem wq_sub {x y : D} {Q : D → Prop} (h : gSub x y = some d) (k : Q d) : Wx (gSub x y) Q := ⟨_, h, k⟩
theorem wq_neg {x : D} {Q : D → Prop} (h : gNeg x = some d) (k : Q d) : Wx (gNeg x) Q := ⟨_, h, k⟩
theorem wq_rev {x : D} {Q : D → Prop} (h : gRev x = some d) (k : Q d) : Wx (gRev x) Q := ⟨_, h, k⟩
theorem wq_cut {x : D} {l r : Option Int} {Q : D → Prop} (h : gCut x l r = some d) (k : Q d) : Wx (gCut x l r) Q := ⟨_, h, k⟩
theorem wq_int {xs : List D} {Q : D → Prop} (h : gInt xs = some d) (k : Q d) : Wx (gInt xs) Q := ⟨_, h, k⟩
theorem wq_lst {xs : List D} {Q : D → Prop} (h : gList xs = some d) (k : Q d) : Wx (gList xs) Q := ⟨_, h, k⟩
theorem wq_tup {xs : List D} {Q : D → Prop} (h : gTuple xs = some d) (k : Q d) : Wx (gTuple xs) Q := ⟨_, h, k⟩
theorem wq_max {xs : List D} {Q : D → Prop} (h : gMax2 xs = some d) (k : Q d) : Wx (gMax2 xs) Q := ⟨_, h, k⟩
theorem wq_min {xs : List D} {Q : D → Prop} (h : gMin2 xs = some d) (k : Q d) : Wx (gMin2 xs) Q := ⟨_, h, k⟩
theorem wq_all {xs : List D} {Q : D → Prop} (h : gAll xs = some d) (k : Q d) : Wx (gAll xs) Q := ⟨_, h, k⟩
theorem wq_any {xs : List D} {Q : D → Prop} (h : gAny xs = some d) (k : Q d) : Wx (gAny xs) Q := ⟨_, h, k⟩
theorem wq_repr {x : D} {Q : D → Prop} (h : gRepr x = some d) (k : Q d) : Wx (gRepr x) Q := ⟨_, h, k⟩
theorem wq_muls {x y : D} {Q : D → Prop} (h : gMuls x y = some d) (k : Q d) : Wx (gMuls x y) Q := ⟨_, h, k⟩
theorem wq_eq {x y : D} {Q : D → Prop} (h : gEq x y = some d) (k : Q d) : Wx (gEq x y) Q := ⟨_, h, k⟩
theorem wq_ne {x y : D} {Q : D → Prop} (h : gNe x y = some d) (k : Q d) : Wx (gNe x y) Q := ⟨_, h, k⟩
theorem wq_isiT {U : String} {x : D} {Q : D → Prop} (h : gIsi U x = some (.bool true)) (k : Q (.bool true)) : Wx (gIsi U x) Q := ⟨_, h, k⟩
theorem wq_isiF {U : String} {x : D} {Q : D → Prop} (h : gIsi U x = some (.bool false)) (k : Q (.bool false)) : Wx (gIsi U x) Q := ⟨_, h, k⟩
theorem wc_T {b : Bool} {A B : Prop} (h : b = true) (k : A) : Wc b A B := ⟨fun _ => k, fun z => by rw [h] at z; cases z⟩
theorem wc_F {b : Bool} {A B : Prop} (h : b = false) (k : B) : Wc b A B := ⟨fun z => (by rw [h] at z; cases z), fun _ => k⟩
theorem and_put {s : Option Sv} {B : Prop} (h : mayPut s = true) (k : B) : mayPut s = true ∧ B := ⟨h, k⟩
theorem and_len {ds : List D} {B : Prop} (h : ds.length ≤ 100000) (k : B) : ds.length ≤ 100000 ∧ B := ⟨h, k⟩
theorem wd_op1 {g : D → Option D} (h : Wo a e fun u e => Wl u e fun x => Wx (g x) fun d => Q d e) : Wd (op1 g a) e Q := by
  obtain ⟨u, e1, h1, x, h2, d, h3, k⟩ := h
  exact ⟨_, _, by simp [op1, h1, h2, h3], k⟩
theorem wd_op2 {g : D → D → Option D} (h : Wo a e fun u e => Wo b e fun v e => Wl u e fun x => Wl v e fun y => Wx (g x y) fun d => Q d e) : Wd (op2 g a b) e Q := by
  obtain ⟨u, e1, h1, v, e2, h2, x, h3, y, h4, d, h5, k⟩ := h
  exact ⟨_, _, by simp [op2, h1, h2, h3, h4, h5], k⟩
theorem wd_opA {g : List D → Option D} (h : Wv os e fun us e => Wk us e fun xs => Wx (g xs) fun d => Q d e) : Wd (opA g os) e Q := by
  obtain ⟨u, e1, h1, x, h2, d, h3, k⟩ := h
  exact ⟨_, _, by simp [opA, h1, h2, h3], k⟩
theorem wb_d {Q : Bool → En → Prop} (h : Wd f e fun d e => ∃ b, d = .bool b ∧ Q b e) : Wb (bD f) e Q := by
  obtain ⟨_, e1, h1, b, rfl, k⟩ := h
  exact ⟨_, _, by simp [bD, h1], k⟩
theorem wb_and {Q : Bool → En → Prop} (h : Wb p e fun b e => Wc b (Wb q e Q) (Q false e)) : Wb (bAnd p q) e Q := by
  obtain ⟨b, e1, h1, k⟩ := h
  cases b
  · exact ⟨_, _, by simp [bAnd, h1], k.2 rfl⟩
  · obtain ⟨b2, e2, h2, k⟩ := k.1 rfl
    exact ⟨_, _, by simp [bAnd, h1, h2], k⟩
theorem wb_or {Q : Bool → En → Prop} (h : Wb p e fun b e => Wc b (Q true e) (Wb q e Q)) : Wb (bOr p q) e Q := by
  obtain ⟨b, e1, h1, k⟩ := h
  cases b
  · obtain ⟨b2, e2, h2, k⟩ := k.2 rfl
    exact ⟨_, _, by simp [bOr, h1, h2], k⟩
  · exact ⟨_, _, by simp [bOr, h1], k.1 rfl⟩
theorem wb_not {Q : Bool → En → Prop} (h : Wb p e fun b e => Q (!b) e) : Wb (bNot p) e Q := by
  obtain ⟨b, e1, h1, k⟩ := h
  exact ⟨_, _, by simp [bNot, h1], k⟩
theorem wb_tt {Q : Bool → En → Prop} (k : Q true e) : Wb bTrue e Q := ⟨_, _, rfl, k⟩
theorem wd_and (h : Wd f e fun d e => ∃ b, d = .bool b ∧ Wc b (Wd g e Q) (Q (.bool false) e)) : Wd (eAnd f g) e Q := by
  obtain ⟨_, e1, h1, b, rfl, k⟩ := h
  cases b
  · exact ⟨_, _, by simp [eAnd, bD, h1], k.2 rfl⟩
  · obtain ⟨b2, e2, h2, k⟩ := k.1 rfl
    exact ⟨_, _, by simp [eAnd, bD, h1, h2], k⟩
theorem wd_or (h : Wd f e fun d e => ∃ b, d = .bool b ∧ Wc b (Q (.bool true) e) (Wd g e Q)) : Wd (eOr f g) e Q := by
  obtain ⟨_, e1, h1, b, rfl, k⟩ := h
  cases b
  · obtain ⟨b2, e2, h2, k⟩ := k.2 rfl
    exact ⟨_, _, by simp [eOr, bD, h1, h2], k⟩
  · exact ⟨_, _, by simp [eOr, bD, h1], k.1 rfl⟩
theorem wd_not (h : Wd f e fun d e => ∃ b, d = .bool b ∧ Q (.bool (!b)) e) : Wd (eNot f) e Q := by
  obtain ⟨_, e1, h1, b, rfl, k⟩ := h
  exact ⟨_, _, by simp [eNot, bD, h1], k⟩
theorem wd_if (h : Wb p e fun b e => Wc b (Wd f e Q) (Wd g e Q)) : Wd (eIf p f g) e Q := by
  obtain ⟨b, e1, h1, k⟩ := h
  cases b
  · obtain ⟨b2, e2, h2, k⟩ := k.2 rfl
    exact ⟨_, _, by simp [eIf, h1, h2], k⟩
  · obtain ⟨b2, e2, h2, k⟩ := k.1 rfl
    exact ⟨_, _, by simp [eIf, h1, h2], k⟩
theorem wd_chain {g h : D → D → Option D} (k : Wo a e fun u e => Wo b e fun v e => Wl u e fun x => Wl v e fun y => Wx (g x y) fun d => ∃ t, d = .bool t ∧ Wc t (Wo c e fun w e => Wl v e fun y => Wl w e fun z => Wx (h y z) fun d => Q d e) (Q (.bool false) e)) : Wd (eChain g h a b c) e Q := by
  obtain ⟨u, e1, h1, v, e2, h2, x, h3, y, h4, _, h5, t, rfl, k⟩ := k
  cases t
  · exact ⟨_, _, by simp [eChain, h1, h2, h3, h4, h5], k.2 rfl⟩
  · obtain ⟨w, e3, g1, y', g2, z, g3, d, g4, k⟩ := k.1 rfl
    exact ⟨_, _, by simp [eChain, h1, h2, h3, h4, h5, g1, g2, g3, g4], k⟩
theorem wd_tup (h : Wv os e fun us e => Wy (fzAll us) fun ds => ds.length ≤ 100000 ∧ Q (.tuple ds) e) : Wd (eTup os) e Q := by
  obtain ⟨us, e1, h1, ds, h2, hl, k⟩ := h
  exact ⟨_, _, by simp [eTup, h1, h2, hl], k⟩
theorem wd_lst (h : Wv os e fun us e => Wy (fzAll us) fun ds => ds.length ≤ 100000 ∧ Q (.list ds) e) : Wd (eLst os) e Q := by
  obtain ⟨us, e1, h1, ds, h2, hl, k⟩ := h
  exact ⟨_, _, by simp [eLst, h1, h2, hl], k⟩
theorem wy_eq {o : Option (List D)} {ds : List D} {Q : List D → Prop} (h : o = some ds) (k : Q ds) : Wy o Q := ⟨_, h, k⟩
theorem we_eq {o : Option En} {ds : En} {Q : En → Prop} (h : o = some ds) (k : Q ds) : We o Q := ⟨_, h, k⟩
theorem wd_call {fl : List Bool} {g : List D → Option (D × List D)} (h : Wv os e fun us e => Wy (callIn fl us e) fun ds => Wf (g ds) fun d outs => We (putBack (callSl us) outs e) fun e => Q d e) : Wd (eCall fl g os) e Q := by
  obtain ⟨us, e1, h1, ds, h2, d, outs, h3, e2, h4, k⟩ := h
  exact ⟨_, _, by simp [eCall, h1, h2, h3, h4], k⟩
theorem wd_meth {g : List D → D → Option D} (h : Wy (ownL e[i]?) fun _ => Wv os e fun us e => Wy (fzAll us) fun ds => We (chgAt i (g ds) e) fun e => Q .none e) : Wd (eMeth i g os) e Q := by
  obtain ⟨ls, h0, us, e1, h1, ds, h2, e2, h3, k⟩ := h
  exact ⟨_, _, by simp [eMeth, h0, h1, h2, h3], k⟩
theorem wp_no {Q : Option Int → En → Prop} (k : Q none e) : Wp pNo e Q := ⟨_, _, rfl, k⟩
theorem wp_at {Q : Option Int → En → Prop} (h : Wd f e fun d e => ∃ i, d = .int i ∧ Q (some i) e) : Wp (pAt f) e Q := by
  obtain ⟨_, e1, h1, b, rfl, k⟩ := h
  exact ⟨_, _, by simp [pAt, h1], k⟩
theorem wd_slice {g : D → Option Int → Option Int → Option D} {lo hi : Pf} (h : Wo a e fun u e => Wp lo e fun l e => Wp hi e fun h e => Wl u e fun x => Wx (g x l h) fun d => Q d e) : Wd (eSlice g a lo hi) e Q := by
  obtain ⟨u, e1, h1, l, e2, h2, t, e3, h3, x, h4, d, h5, k⟩ := h
  exact ⟨_, _, by simp [eSlice, h1, h2, h3, h4, h5], k⟩
theorem wd_dict0 (k : Q (.dict []) e) : Wd eDict0 e Q := ⟨_, _, rfl, k⟩
theorem wd_lc {vs : List Nat} {t : Tg} {it : If} (h : Wi it e fun ds e1 => ds.length < 100000 ∧ We (wipeE vs e1) fun e2 => ∃ zs e3, lcGo vs t p f ds e2 = some (zs, e3) ∧ Q (.list zs) (restore vs e1 e3)) : Wd (eLc vs t it p f) e Q := by
  obtain ⟨ds, e1, h1, hl, e2, h2, zs, e3, h3, k⟩ := h
  exact ⟨_, _, by simp [eLc, h1, hl, h2, h3], k⟩
theorem wi_l {Q : List D → En → Prop} (h : Wd f e fun d e => ∃ ds, d = .list ds ∧ Q ds e) : Wi (iL f) e Q := by
  obtain ⟨_, e1, h1, b, rfl, k⟩ := h
  exact ⟨_, _, by simp [iL, h1], k⟩
theorem wi_t {Q : List D → En → Prop} (h : Wd f e fun d e => ∃ ds, d = .tuple ds ∧ Q ds e) : Wi (iT f) e Q := by
  obtain ⟨_, e1, h1, b, rfl, k⟩ := h
  exact ⟨_, _, by simp [iT, h1], k⟩
theorem wi_enT {Q : List D → En → Prop} (h : Wd f e fun d e => ∃ ds, d = .tuple ds ∧ Q (numbered 0 ds) e) : Wi (iEnT f) e Q := by
  obtain ⟨_, e1, h1, b, rfl, k⟩ := h
  exact ⟨_, _, by simp [iEnT, h1], k⟩
theorem wi_enL {Q : List D → En → Prop} (h : Wd f e fun d e => ∃ ds, d = .list ds ∧ Q (numbered 0 ds) e) : Wi (iEnL f) e Q := by
  obtain ⟨_, e1, h1, b, rfl, k⟩ := h
  exact ⟨_, _, by simp [iEnL, h1], k⟩
theorem wi_zipT {Q : List D → En → Prop} (h : Wd f e fun d e => ∃ ds, d = .tuple ds ∧ Wd g e fun d e => ∃ es, d = .tuple es ∧ Q (pairs ds es) e) : Wi (iZipT f g) e Q := by
  obtain ⟨_, e1, h1, b, rfl, _, e2, h2, c, rfl, k⟩ := h
  exact ⟨_, _, by simp [iZipT, h1, h2], k⟩
/-- what comes after -/
def Rs.go (A : En → Prop) (Q : Rs → Prop) : Rs → Prop
  | .nx e => A e
  | r => Q r
theorem rg_nx {A : En → Prop} {Q : Rs → Prop} (h : A e) : Rs.go A Q (.nx e) := h
theorem rg_rt {A : En → Prop} {Q : Rs → Prop} (h : Q (.rt d e)) : Rs.go A Q (.rt d e) := h
theorem rg_rn {A : En → Prop} {Q : Rs → Prop} (h : Q (.rn d e)) : Rs.go A Q (.rn d e) := h
theorem rg_bk {A : En → Prop} {Q : Rs → Prop} (h : Q (.bk e)) : Rs.go A Q (.bk e) := h
theorem rg_ct {A : En → Prop} {Q : Rs → Prop} (h : Q (.ct e)) : Rs.go A Q (.ct e) := h
def Rs.fin (fl : List Bool) (Q : D → List D → Prop) : Rs → Prop
  | .nx e => Wy (outsAt (slotsOf 0 fl) e) fun os => Q .none os
  | .rt d e => Wy (outsAt (slotsOf 0 fl) e) fun os => Q d os
  | _ => False
def Rs.finN (fl : List Bool) (Q : D → List D → Prop) : Rs → Prop
  | .rn d e => Wy (outsAt (slotsOf 0 fl) e) fun os => Q d os
  | _ => False
theorem rf_nx {fl : List Bool} {Q : D → List D → Prop} (h : Wy (outsAt (slotsOf 0 fl) e) fun os => Q .none os) : Rs.fin fl Q (.nx e) := h
theorem rf_rt {fl : List Bool} {Q : D → List D → Prop} (h : Wy (outsAt (slotsOf 0 fl) e) fun os => Q d os) : Rs.fin fl Q (.rt d e) := h
theorem rf_rn {fl : List Bool} {Q : D → List D → Prop} (h : Wy (outsAt (slotsOf 0 fl) e) fun os => Q d os) : Rs.finN fl Q (.rn d e) := h
theorem ws_seq {f g : Sf} {Q : Rs → Prop} (h : Ws f e (Rs.go (fun e => Ws g e Q) Q)) : Ws (sq f g) e Q := by
  obtain ⟨r, h1, k⟩ := h
  cases r with
  | nx e1 =>
    obtain ⟨r2, h2, k⟩ := k
    exact ⟨r2, by simp [sq, h1, h2], k⟩
  | _ => exact ⟨_, by simp [sq, h1], k⟩
theorem ws_nx {Q : Rs → Prop} (k : Q (.nx e)) : Ws sNx e Q := ⟨_, rfl, k⟩
theorem ws_if {f g : Sf} {Q : Rs → Prop} (h : Wb p e fun b e => Wc b (Ws f e Q) (Ws g e Q)) : Ws (sIf p f g) e Q := by
  obtain ⟨b, e1, h1, k⟩ := h
  cases b
  · obtain ⟨r, h2, k⟩ := k.2 rfl
    exact ⟨_, by simp [sIf, h1, h2], k⟩
  · obtain ⟨r, h2, k⟩ := k.1 rfl
    exact ⟨_, by simp [sIf, h1, h2], k⟩
theorem ws_set {Q : Rs → Prop} (h : Wd f e fun d e => mayPut e[i]? = true ∧ Q (.nx (e.set i (.fz d)))) : Ws (sSet i f) e Q := by
  obtain ⟨d, e1, h1, h2, k⟩ := h
  exact ⟨_, by simp [sSet, put, h1, h2], k⟩
theorem ws_setN {Q : Rs → Prop} (h : Wd f e fun d e => mayPut e[i]? = true ∧ Q (.nx (e.set i (.ow d)))) : Ws (sSetN i f) e Q := by
  obtain ⟨d, e1, h1, h2, k⟩ := h
  exact ⟨_, by simp [sSetN, put, h1, h2], k⟩
theorem ws_drop {Q : Rs → Prop} (h : Wd f e fun d e => Q (.nx e)) : Ws (sDrop f) e Q := by
  obtain ⟨d, e1, h1, k⟩ := h
  exact ⟨_, by simp [sDrop, h1], k⟩
theorem ws_ret {Q : Rs → Prop} (h : Wd f e fun d e => Q (.rt d e)) : Ws (sRet f) e Q := by
  obtain ⟨d, e1, h1, k⟩ := h
  exact ⟨_, by simp [sRet, h1], k⟩
theorem ws_retN {Q : Rs → Prop} (h : Wd f e fun d e => Q (.rn d e)) : Ws (sRetN f) e Q := by
  obtain ⟨d, e1, h1, k⟩ := h
  exact ⟨_, by simp [sRetN, h1], k⟩
theorem ws_unp {t : Tg} {Q : Rs → Prop} (h : Wd f e fun d e => We (t d e) fun e => Q (.nx e)) : Ws (sUnp t f) e Q := by
  obtain ⟨d, e1, h1, e2, h2, k⟩ := h
  exact ⟨_, by simp [sUnp, h1, h2], k⟩
theorem ws_setIx {Q : Rs → Prop} (h : Wd f e fun d e => Wy (ownL e[i]?) fun _ => Wo a e fun u e => Wl u e fun y => We (chgAt i (sSetIx.gSetL y d) e) fun e => Q (.nx e)) : Ws (sSetIx i f a) e Q := by
  obtain ⟨d, e1, h1, ls, h2, u, e2, h3, y, h4, e3, h5, k⟩ := h
  exact ⟨_, by simp [sSetIx, h1, h2, h3, h4, h5], k⟩
theorem ws_for {t : Tg} {it : If} {body : Sf} {Q : Rs → Prop} (h : Wi it e fun ds e => ∃ r, forD t body ds e = some r ∧ Q r) : Ws (sFor t it body) e Q := by
  obtain ⟨ds, e1, h1, r, h2, k⟩ := h
  exact ⟨_, by simp [sFor, h1, h2], k⟩
theorem wf_of {n : Nat} {fl : List Bool} {body : Sf} {ds : List D} {Q : D → List D → Prop} (hl : ds.length = fl.length) (h : Ws body (env0 n fl ds) (Rs.fin fl Q)) : Wf (gOf n fl body ds) Q := by
  obtain ⟨r, h1, k⟩ := h
  cases r with
  | nx e1 => obtain ⟨os, h2, k⟩ := k; exact ⟨_, _, by simp [gOf, hl, h1, h2], k⟩
  | rt d e1 => obtain ⟨os, h2, k⟩ := k; exact ⟨_, _, by simp [gOf, hl, h1, h2], k⟩
  | _ => exact k.elim
theorem wf_ofN {n : Nat} {fl : List Bool} {body : Sf} {ds : List D} {Q : D → List D → Prop} (hl : ds.length = fl.length) (h : Ws body (env0 n fl ds) (Rs.finN fl Q)) : Wf (gOfN n fl body ds) Q := by
  obtain ⟨r, h1, k⟩ := h
  cases r with
  | rn d e1 => obtain ⟨os, h2, k⟩ := k; exact ⟨_, _, by simp [gOfN, hl, h1, h2], k⟩
  | _ => exact k.elim
theorem wf_eq {o : Option (D × List D)} {d : D} {os : List D} {Q : D → List D → Prop} (h : o = some (d, os)) (k : Q d os) : Wf o Q := ⟨_, _, h, k⟩
theorem wf_use {o : Option (D × List D)} {P Q : D → List D → Prop} (h : Wf o P) (k : ∀ d os, P d os → Q d os) : Wf o Q := by
  obtain ⟨d, os, h, p⟩ := h
  exact ⟨d, os, h, k d os p⟩
end
end DL

/-! DQ: the laws' pool of numbers. -/
namespace DL
open PySem L2
local macro_rules | `(tactic| walk_at "go") => `(tactic| repeat (with_reducible first
  | refine wo_ex ?_ | refine wl_f ?_ | refine wd_c ?_ | refine wd_op2 ?_ | refine wd_op1 ?_ | refine wd_opA ?_ | refine wv_nil ?_ | refine wv_cons ?_ | refine wk_nil ?_ | refine wk_cons ?_
  | refine wc_t ?_ | refine wc_f ?_ | refine wb_d ?_ | refine wb_and ?_ | refine wb_or ?_ | refine wb_not ?_ | refine wb_tt ?_ | refine wd_and ?_ | refine wd_or ?_ | refine wd_not ?_ | refine wd_if ?_ | refine wd_chain ?_
  | refine wd_tup ?_ | refine wd_lst ?_ | refine wd_call ?_ | refine wd_meth ?_ | refine wd_slice ?_ | refine wp_no ?_ | refine wp_at ?_ | refine wd_dict0 ?_ | refine wd_lc ?_ | refine wi_l ?_ | refine wi_t ?_ | refine wi_enT ?_ | refine wi_enL ?_ | refine wi_zipT ?_
  | refine ws_seq ?_ | refine ws_nx ?_ | refine ws_if ?_ | refine ws_set ?_ | refine ws_setN ?_ | refine ws_drop ?_ | refine ws_ret ?_ | refine ws_retN ?_ | refine ws_unp ?_ | refine ws_setIx ?_ | refine ws_for ?_
  | refine rg_nx ?_ | refine rg_rt ?_ | refine rg_rn ?_ | refine rf_nx ?_ | refine rf_rt ?_ | refine rf_rn ?_
  | refine wx_eqI ?_ | refine wx_neI ?_ | refine wx_eqB ?_ | refine wx_neB ?_ | refine wx_eqS ?_ | refine wx_neS ?_ | refine wx_lt ?_ | refine wx_le ?_ | refine wx_gt ?_ | refine wx_ge ?_
  | refine wd_var (by with_unfolding_all rfl) ?_ | refine wd_varO (by with_unfolding_all rfl) ?_ | refine wo_f (by with_unfolding_all rfl) ?_ | refine wo_o (by with_unfolding_all rfl) ?_ | refine wo_p (by with_unfolding_all rfl) ?_ | refine wl_s (by with_unfolding_all rfl) ?_
  | refine wy_eq (by with_unfolding_all rfl) ?_ | refine we_eq (by with_unfolding_all rfl) ?_ | refine ⟨_, rfl, ?_⟩ | refine Exists.intro _ (And.intro rfl ?_)
  | refine and_put (by with_unfolding_all rfl) ?_ | refine and_len (by first | (with_unfolding_all decide) | (simp; done) | (simp; omega)) ?_
  | refine wx_mul (by omega) ?_ | refine wx_mod (by omega) ?_ | refine wx_div (by omega) (by first | assumption | decide) ?_ | refine wx_pow (by decide) ?_ | refine wx_addT (by simp; omega) ?_ | refine wx_addL (by simp; omega) ?_
  | refine wq_isiT (by with_unfolding_all rfl) ?_ | refine wq_isiF (by with_unfolding_all rfl) ?_ | refine wc_T (by with_unfolding_all rfl) ?_ | refine wc_F (by with_unfolding_all rfl) ?_ | refine wq_len (by with_unfolding_all rfl) ?_ | refine wq_ix (by with_unfolding_all rfl) ?_ | refine wq_add (by with_unfolding_all rfl) ?_ | refine wq_sub (by with_unfolding_all rfl) ?_ | refine wq_neg (by with_unfolding_all rfl) ?_ | refine wq_rev (by with_unfolding_all rfl) ?_ | refine wq_cut (by with_unfolding_all rfl) ?_ | refine wq_int (by with_unfolding_all rfl) ?_ | refine wq_lst (by with_unfolding_all rfl) ?_ | refine wq_tup (by with_unfolding_all rfl) ?_ | refine wq_max (by with_unfolding_all rfl) ?_ | refine wq_min (by with_unfolding_all rfl) ?_ | refine wq_all (by with_unfolding_all rfl) ?_))
def dCell : Sf := (sq (sIf (bD (op2 gLt (.vr 1) (.ex (opA gLen [(.vr 0)])))) (sRet (op2 gIx (.vr 0) (.vr 1))) sNx) (sRet (eC (.int 0))))
def gCell : List D → Option (D × List D) := gOf 2 [false, false] dCell
def dPool : Sf := (sq (sSet 2 (eCall [false, false] gCell [(.ex (eVar 0)), (.ex (eVar 1))])) (sq (sSet 3 (op2 gMod (.ex (op2 gMuls (.ex (op2 gAdd (.ex (op2 gAdd (.ex (op2 gMod (.vr 2) (.ex (eC (.int 2147483629))))) (.ex (op2 gMuls (.ex (op2 gMuls (.ex (eC (.int 7919))) (.vr 1))) (.vr 1))))) (.ex (eC (.int 1))))) (.ex (eC (.int 48271))))) (.ex (eC (.int 2147483647))))) (sq (sIf (bD (op2 gLt (.vr 2) (.ex (op2 gPow (.ex (eC (.int 10))) (.ex (eC (.int 18))))))) (sSet 2 (eC (.int 0))) sNx) (sRetN (eLst [(.ex (eVar 2)), (.ex (op2 gMod (.ex (op2 gMuls (.vr 3) (.vr 3))) (.ex (eC (.int 2147483629)))))])))))
def gPool : List D → Option (D × List D) := gOfN 4 [false, false] dPool
def dTake : Sf := (sq (sIf (bD (op2 gGt (.ex (op2 gIx (.vr 0) (.ex (eC (.int 0))))) (.ex (eC (.int 0))))) (sq (sSet 2 (op2 gMod (.ex (op2 gIx (.vr 0) (.ex (eC (.int 0))))) (.vr 1))) (sq (sSetIx 0 (op2 gDiv (.ex (op2 gIx (.vr 0) (.ex (eC (.int 0))))) (.vr 1)) (.ex (eC (.int 0)))) (sRet (eVar 2)))) sNx) (sq (sSetIx 0 (op2 gMod (.ex (op2 gAdd (.ex (op2 gMuls (.ex (op2 gIx (.vr 0) (.ex (eC (.int 1))))) (.ex (eC (.int 48271))))) (.ex (eC (.int 11))))) (.ex (eC (.int 2147483647)))) (.ex (eC (.int 1)))) (sRet (op2 gMod (.ex (op2 gDiv (.ex (op2 gMod (.ex (op2 gMuls (.ex (op2 gIx (.vr 0) (.ex (eC (.int 1))))) (.ex (op2 gIx (.vr 0) (.ex (eC (.int 1))))))) (.ex (eC (.int 2147483629))))) (.ex (eC (.int 64))))) (.vr 1)))))
def gTake : List D → Option (D × List D) := gOf 3 [true, false] dTake
def IsPool (P : D) : Prop := ∃ c s : Int, P = .list [.int c, .int s] ∧ 0 ≤ s ∧ s < 2147483647
theorem cell_spec (ns : List Int) (k : Nat) : Wf (gCell [.dict [(.none, .list (ns.map .int))], .int k]) fun d os => os = [] ∧ ∃ c : Int, d = .int c := by
  unfold gCell dCell
  refine wf_of rfl ?_
  walk_at "go"
  refine wc_s (fun h => ?_) (fun h => ?_)
  · walk_at "go"
    have h : k < ns.length := by simpa using h
    refine wx_ixS (Int.natCast_nonneg k) (show (ns.map PyData.int)[(k : Int).toNat]? = some (.int ns[k]) from by simp [h]) ?_
    walk_at "go"
    exact ⟨rfl, _, rfl⟩
  · walk_at "go"
    exact ⟨rfl, _, rfl⟩
theorem mul_lt_big {a b : Int} (ha : 0 ≤ a) (hb : 0 ≤ b) (h1 : a < 2147483648) (h2 : b < 2147483648) : 0 ≤ a * b ∧ a * b < 4611686018427387905 := by
  refine ⟨Int.mul_nonneg ha hb, ?_⟩
  have := Int.mul_le_mul (show a ≤ 2147483648 by omega) (show b ≤ 2147483648 by omega) hb (by decide)
  omega
theorem pool_spec (ns : List Int) (k : Nat) (hk : k < 100) : Wf (gPool [.dict [(.none, .list (ns.map .int))], .int k]) fun d os => os = [] ∧ IsPool d := by
  unfold gPool dPool
  refine wf_ofN rfl ?_
  walk_at "go"
  refine wf_use (cell_spec ns k) ?_
  rintro _ _ ⟨rfl, c, rfl⟩
  have hkk : (0 : Int) ≤ 7919 * (k : Int) * (k : Int) ∧ 7919 * (k : Int) * (k : Int) ≤ 79190000 := by
    have h1 := Int.mul_le_mul (show (k : Int) ≤ 100 by omega) (show (k : Int) ≤ 100 by omega) (by omega) (by decide)
    have h2 := Int.mul_nonneg (show (0 : Int) ≤ k by omega) (show (0 : Int) ≤ k by omega)
    rw [Int.mul_assoc]
    omega
  generalize hkk2 : 7919 * (k : Int) * (k : Int) = kk at hkk
  walk_at "go"
  rw [hkk2]
  have hs : 0 ≤ (c % 2147483629 + kk + 1) * 48271 % 2147483647 ∧ (c % 2147483629 + kk + 1) * 48271 % 2147483647 < 2147483647 := by omega
  generalize (c % 2147483629 + kk + 1) * 48271 % 2147483647 = sd at hs
  refine wc_s (fun h => ?_) (fun h => ?_)
  · walk_at "go"
    exact ⟨rfl, _, _, rfl, by omega, by omega⟩
  · walk_at "go"
    exact ⟨rfl, _, _, rfl, by omega, by omega⟩
theorem take_spec (P : D) (hP : IsPool P) (m : Int) (h0 : 0 < m) (hm : m.natAbs.log2 < 9000) : Wf (gTake [P, .int m]) fun d os => ∃ (x : Int) (P' : D), d = .int x ∧ os = [P'] ∧ 0 ≤ x ∧ x < m ∧ IsPool P' := by
  obtain ⟨c, s, rfl, h1, h2⟩ := hP
  unfold gTake dTake
  refine wf_of rfl ?_
  walk_at "go"
  refine wc_s (fun h => ?_) (fun h => ?_)
  · walk_at "go"
    exact ⟨_, _, rfl, rfl, Int.emod_nonneg _ (by omega), Int.emod_lt_of_pos _ h0, _, _, rfl, h1, h2⟩
  · walk_at "go"
    have hs : 0 ≤ (s * 48271 + 11) % 2147483647 ∧ (s * 48271 + 11) % 2147483647 < 2147483647 := by omega
    generalize (s * 48271 + 11) % 2147483647 = sd at hs ⊢
    exact ⟨_, _, rfl, rfl, Int.emod_nonneg _ (by omega), Int.emod_lt_of_pos _ h0, _, _, rfl, hs⟩
end DL

/-! DR: loops run forward. -/
namespace DL
open PySem L2
section
variable {vs : List Nat} {t : Tg} {p : Bf} {f : Df} {e e0 : En}
theorem lc_pure (g : D → D) : ∀ {ds : List D}, (∀ x ∈ ds, We (t x e0) fun e1 => Wb p e1 fun b e => b = true ∧ Wd f e fun y e => y = g x ∧ We (wipeE vs e) fun e => e = e0) → lcGo vs t p f ds e0 = some (ds.map g, e0)
  | [], _ => rfl
  | x :: ds, h => by
    obtain ⟨e1, h1, b, e2, h2, rfl, y, e3, h3, rfl, e4, h4, e5⟩ := h x List.mem_cons_self
    rw [e5] at h4
    have r := lc_pure (g := g) (ds := ds) fun z hz => h z (List.mem_cons_of_mem _ hz)
    simp [lcGo, h1, h2, h3, h4, r]
theorem lc_inv (I : En → Prop) (R : D → Prop) : ∀ {ds : List D} {e : En}, I e → (∀ x ∈ ds, ∀ e, I e → We (t x e) fun e1 => Wb p e1 fun b e2 => Wc b (Wd f e2 fun y e3 => R y ∧ We (wipeE vs e3) I) (We (wipeE vs e2) I)) →
    ∃ zs e', lcGo vs t p f ds e = some (zs, e') ∧ I e' ∧ zs.length ≤ ds.length ∧ ∀ z ∈ zs, R z
  | [], e, i, _ => ⟨[], e, rfl, i, Nat.le_refl _, nofun⟩
  | x :: ds, e, i, h => by
    obtain ⟨e1, h1, b, e2, h2, k⟩ := h x List.mem_cons_self e i
    have hr : ∀ z ∈ ds, ∀ e, I e → We (t z e) fun e1 => Wb p e1 fun b e2 => Wc b (Wd f e2 fun y e3 => R y ∧ We (wipeE vs e3) I) (We (wipeE vs e2) I) := fun z hz => h z (List.mem_cons_of_mem _ hz)
    cases b
    · obtain ⟨e4, h4, i4⟩ := k.2 rfl
      obtain ⟨zs, e', r, i', hl, ha⟩ := lc_inv I R i4 hr
      exact ⟨zs, e', by simp [lcGo, h1, h2, h4, r], i', Nat.le_succ_of_le hl, ha⟩
    · obtain ⟨y, e3, h3, ry, e4, h4, i4⟩ := k.1 rfl
      obtain ⟨zs, e', r, i', hl, ha⟩ := lc_inv I R i4 hr
      refine ⟨y :: zs, e', by simp [lcGo, h1, h2, h3, h4, r], i', Nat.succ_le_succ hl, fun z hz => ?_⟩
      rcases List.mem_cons.mp hz with rfl | hz
      · exact ry
      · exact ha z hz
/-- a round that goes on -/
def Rs.on (I : En → Prop) : Rs → Prop
  | .nx e => I e
  | .ct e => I e
  | _ => False
theorem ro_nx {I : En → Prop} (h : I e) : Rs.on I (.nx e) := h
theorem for_inv {body : Sf} (I : En → Prop) : ∀ {ds : List D} {e : En}, I e → (∀ x ∈ ds, ∀ e, I e → We (t x e) fun e1 => Ws body e1 (Rs.on I)) → ∃ e', forD t body ds e = some (.nx e') ∧ I e'
  | [], e, i, _ => ⟨e, rfl, i⟩
  | x :: ds, e, i, h => by
    obtain ⟨e1, h1, r, h2, k⟩ := h x List.mem_cons_self e i
    have hr : ∀ z ∈ ds, ∀ e, I e → We (t z e) fun e1 => Ws body e1 (Rs.on I) := fun z hz => h z (List.mem_cons_of_mem _ hz)
    cases r with
    | nx e2 => obtain ⟨e', r, i'⟩ := for_inv I k hr; exact ⟨e', by simp [forD, h1, h2, r], i'⟩
    | ct e2 => obtain ⟨e', r, i'⟩ := for_inv I k hr; exact ⟨e', by simp [forD, h1, h2, r], i'⟩
    | _ => exact k.elim
end
theorem rng_mem {n : Nat} {x : D} (h : x ∈ rng 0 n) : ∃ i : Nat, x = .int i ∧ i < n := by
  unfold rng at h
  obtain ⟨i, hi, rfl⟩ := List.mem_map.mp h
  exact ⟨i, by simp, List.mem_range.mp hi⟩
theorem wi_r1 {a : Opd} {e : En} {Q : List D → En → Prop} (h : Wv [a] e fun us e => Wk us e fun ds => ∃ n : Int, ds = [.int n] ∧ (-4611686018427387904 ≤ n ∧ n < 4611686018427387904) ∧ Q (rng 0 n.toNat) e) : Wi (iR1 a) e Q := by
  obtain ⟨us, e1, h1, _, h2, n, rfl, hn, k⟩ := h
  have hn : -(2 ^ 62) ≤ n ∧ n < 2 ^ 62 := by omega
  exact ⟨_, _, by simp [iR1, h1, h2]; exact hn, k⟩
/-- a bool comes back, nothing was changed -/
def Tells (x : Option (D × List D)) (b : Bool) : Prop := Wf x fun d os => d = .bool b ∧ os = []
theorem Tells.eq {x : Option (D × List D)} {b : Bool} (h : Tells x b) : x = some (.bool b, []) := by
  obtain ⟨_, _, h, rfl, rfl⟩ := h
  exact h
theorem Tells.use {x : Option (D × List D)} {b : Bool} {Q : D → List D → Prop} (h : Tells x b) (k : Q (.bool b) []) : Wf x Q := ⟨_, _, h.eq, k⟩
end DL

/-! DS: more of what the laws' makers do. -/
namespace DL
open PySem L2
theorem cut_to {xs : List D} {i : Int} (h : 0 ≤ i) : cutD xs none (some i) = xs.take i.toNat := by
  obtain ⟨n, rfl⟩ := Int.eq_ofNat_of_zero_le h
  unfold cutD
  rw [HT.sIx_none, HT.sIx_nat, List.drop_zero, Nat.sub_zero, Int.toNat_natCast]
  rcases Nat.le_total n xs.length with q | q
  · rw [Nat.min_eq_left q]
  · rw [Nat.min_eq_right q, List.take_of_length_le (Nat.le_refl _), List.take_of_length_le q]
theorem cut_from {xs : List D} {i : Int} (h : 0 ≤ i) : cutD xs (some i) none = xs.drop i.toNat := by
  obtain ⟨n, rfl⟩ := Int.eq_ofNat_of_zero_le h
  unfold cutD
  rw [HT.sIx_none, HT.sIx_nat, Int.toNat_natCast]
  rcases Nat.le_total n xs.length with q | q
  · rw [Nat.min_eq_left q, List.take_of_length_le (by rw [List.length_drop]; exact Nat.le_refl _)]
  · rw [Nat.min_eq_right q, List.drop_of_length_le (Nat.le_refl _), List.drop_of_length_le q, List.take_nil]
theorem wx_toT {xs : List D} {i : Int} {Q : D → Prop} (h : 0 ≤ i) (k : Q (.tuple (xs.take i.toNat))) : Wx (gCut (.tuple xs) none (some i)) Q := ⟨_, by rw [← cut_to h]; rfl, k⟩
theorem wx_fromT {xs : List D} {i : Int} {Q : D → Prop} (h : 0 ≤ i) (k : Q (.tuple (xs.drop i.toNat))) : Wx (gCut (.tuple xs) (some i) none) Q := ⟨_, by rw [← cut_from h]; rfl, k⟩
theorem wx_toL {xs : List D} {i : Int} {Q : D → Prop} (h : 0 ≤ i) (k : Q (.list (xs.take i.toNat))) : Wx (gCut (.list xs) none (some i)) Q := ⟨_, by rw [← cut_to h]; rfl, k⟩
theorem wx_fromL {xs : List D} {i : Int} {Q : D → Prop} (h : 0 ≤ i) (k : Q (.list (xs.drop i.toNat))) : Wx (gCut (.list xs) (some i) none) Q := ⟨_, by rw [← cut_from h]; rfl, k⟩
/-- one of them -/
theorem wx_pick {P : D → Prop} {L : List D} {i : Int} {Q : D → Prop} (h : ∀ d ∈ L, P d) (h0 : 0 ≤ i) (hl : i < L.length) (k : ∀ d, P d → Q d) : Wx (gIx (.list L) (.int i)) Q := by
  have hl : i.toNat < L.length := by omega
  refine wx_ixL h0 (List.getElem?_eq_getElem hl) (k _ (h _ (List.getElem_mem hl)))
theorem take_use {P : D} {m : Int} {Q : D → List D → Prop} (hP : IsPool P) (h0 : 0 < m) (hm : m < 10 ^ 40) (k : ∀ (x : Int) (P' : D), 0 ≤ x → x < m → IsPool P' → Q (.int x) [P']) : Wf (gTake [P, .int m]) Q := by
  refine wf_use (take_spec P hP m h0 ?_) ?_
  · refine (Nat.log2_lt (by omega)).mpr ?_
    have : m.natAbs < 10 ^ 40 := by omega
    exact Nat.lt_of_lt_of_le this (by decide +kernel)
  · rintro _ _ ⟨x, P', rfl, rfl, h1, h2, hP'⟩
    exact k x P' h1 h2 hP'
theorem mul_flag (zs : List D) (b : Bool) : ∃ ts, gMuls (.tuple zs) (.int (if b = true then 1 else 0)) = some (.tuple ts) ∧ (ts = zs ∨ ts = []) := by
  cases b with
  | true => exact ⟨zs, by simp [gMuls], .inl rfl⟩
  | false =>
    cases zs with
    | nil => exact ⟨[], by simp [gMuls], .inr rfl⟩
    | cons a r => exact ⟨[], by simp [gMuls], .inr rfl⟩
theorem lv_str {n : Nat} {x : Str} (h : (PyData.strOk x && decide ((PyData.shown (.str x)).length ≤ 70)) = true) (k : Nat) : lv n k (.str x) = true := by
  cases k <;> simpa [lv] using h
theorem lv_i {n : Nat} {i : Int} (h : i.natAbs < 10 ^ 60) (k : Nat) : lv n k (.int i) = true := by
  cases k <;> simpa [lv] using h
theorem lv_b {n : Nat} (b : Bool) (k : Nat) : lv n k (.bool b) = true := by cases k <;> rfl
theorem lv_n {n : Nat} (k : Nat) : lv n k .none = true := by cases k <;> rfl
theorem lv_t {n k : Nat} {xs : List D} (h : xs.length ≤ n) (a : ∀ x ∈ xs, lv n k x = true) : lv n (k + 1) (.tuple xs) = true := by
  simp only [lv, Bool.and_eq_true, decide_eq_true_eq, List.all_eq_true]
  exact ⟨h, a⟩
theorem lv_l {n k : Nat} {xs : List D} (h : xs.length ≤ n) (a : ∀ x ∈ xs, lv n k x = true) : lv n (k + 1) (.list xs) = true := by
  simp only [lv, Bool.and_eq_true, decide_eq_true_eq, List.all_eq_true]
  exact ⟨h, a⟩
theorem all_nil {P : D → Prop} : ∀ x ∈ ([] : List D), P x := nofun
theorem all_cons {P : D → Prop} {d : D} {ds : List D} (h : P d) (a : ∀ x ∈ ds, P x) : ∀ x ∈ d :: ds, P x := fun x hx => by
  rcases List.mem_cons.mp hx with rfl | hx
  · exact h
  · exact a x hx
theorem all_app {P : D → Prop} {as ds : List D} (h : ∀ x ∈ as, P x) (a : ∀ x ∈ ds, P x) : ∀ x ∈ as ++ ds, P x := fun x hx => by
  rcases List.mem_append.mp hx with hx | hx
  · exact h x hx
  · exact a x hx
theorem all_take {P : D → Prop} {as : List D} {n : Nat} (h : ∀ x ∈ as, P x) : ∀ x ∈ as.take n, P x := fun x hx => h x (List.mem_of_mem_take hx)
theorem all_drop {P : D → Prop} {as : List D} {n : Nat} (h : ∀ x ∈ as, P x) : ∀ x ∈ as.drop n, P x := fun x hx => h x (List.mem_of_mem_drop hx)
theorem all_rev {P : D → Prop} {as : List D} (h : ∀ x ∈ as, P x) : ∀ x ∈ as.reverse, P x := fun x hx => h x (List.mem_reverse.mp hx)
theorem for_use {t : Tg} {body : Sf} {Q : Rs → Prop} {ds : List D} {e : En} (I : En → Prop) (hi : I e) (hb : ∀ x ∈ ds, ∀ e, I e → We (t x e) fun e1 => Ws body e1 (Rs.on I)) (k : ∀ e, I e → Q (.nx e)) : ∃ r, forD t body ds e = some r ∧ Q r := by
  obtain ⟨e', h, i⟩ := for_inv I hi hb
  exact ⟨_, h, k e' i⟩
theorem put_one {i : Nat} {s : Sv} {e : En} {x : D} {Q : En → Prop} (h : mayPut e[i]? = true) (k : Q (e.set i (.fz x))) : We (tgName i x e) Q := ⟨_, by simp [tgName, put, h], k⟩
end DL

namespace K03
open PySem L2 DL
def top (i : Nat) : Stmt := PySem.Challenge.pw_linkheralds_k03_sheets_or_none.main.body.getD i (.Pass ⟨0, 0, 0, 0⟩)
structure Zs (mg : Str → Option Value) : Prop where
  z_all : mg "all" = none
  z_bool : mg "bool" = none
  z_enumerate : mg "enumerate" = none
  z_int : mg "int" = none
  z_isinstance : mg "isinstance" = none
  z_len : mg "len" = none
  z_list : mg "list" = none
  z_max : mg "max" = none
  z_min : mg "min" = none
  z_range : mg "range" = none
  z_repr : mg "repr" = none
  z_tuple : mg "tuple" = none
  z_zip : mg "zip" = none
  c_MOST_AGE : ∃ t : Tok, mg "MOST_AGE" = some (.int 40 t)
  c_MOST_HOUSES : ∃ t : Tok, mg "MOST_HOUSES" = some (.int 8 t)
  c_MOST_PRICE : ∃ t : Tok, mg "MOST_PRICE" = some (.int 99 t)
section
variable {P : Program} {w : World} {K : PySem.W.Frag} {mg : Str → Option Value} {base : Heap}
/-! ### is_whole -/
def d_is_whole : Sf := (sRet (eAnd (op1 (gIsi "int") (.vr 0)) (eNot (op1 (gIsi "bool") (.vr 0)))))
def g_is_whole : List D → Option (D × List D) := gOf 1 [false] d_is_whole
theorem sc_is_whole : FnScope ["thing"] ["thing"] (defScope (top 3)) := ⟨rfl, rfl, rfl, by decide +kernel, rfl, by decide +kernel, by decide +kernel⟩
theorem ok_is_whole {f : Addr} {fd : FuncData} (F : FnP K "is_whole" (top 3) f fd) (Z : Zs mg)  : FnOk P w K mg base CX0 1 f fd ["thing"] (spD K [false] false g_is_whole) := by
  refine okP F sc_is_whole (spD_len rfl) (fun cdv A outer s H vs Q E hr h => ⟨tS K d_is_whole, ?_, body_of (N := ["thing"]) h⟩)
  exact (ds_one (dS_ret (de_and (de_isi (by decide +kernel) rfl Z.z_isinstance (do_vr 0) rfl Z.z_int (by decide +kernel)) (de_one (de_not (de_isi (by decide +kernel) rfl Z.z_isinstance (do_vr 0) rfl Z.z_bool (by decide +kernel)))))))
/-! ### is_house -/
def d_is_house : Sf := (sRet (eAnd (eCall [false] g_is_whole [(.ex (eVar 1))]) (eChain gLe gLt (.ex (eC (.int 0))) (.vr 1) (.vr 0))))
def g_is_house : List D → Option (D × List D) := gOf 2 [false, false] d_is_house
theorem sc_is_house : FnScope ["many", "thing"] ["many", "thing"] (defScope (top 4)) := ⟨rfl, rfl, rfl, by decide +kernel, rfl, by decide +kernel, by decide +kernel⟩
theorem ok_is_house {f : Addr} {fd : FuncData} (F : FnP K "is_house" (top 4) f fd) (Z : Zs mg) (G_is_whole : Got P w K mg base 1 "is_whole" ["thing"] (spD K [false] false g_is_whole)) : FnOk P w K mg base CX0 2 f fd ["many", "thing"] (spD K [false, false] false g_is_house) := by
  refine okP F sc_is_house (spD_len rfl) (fun cdv A outer s H vs Q E hr h => ⟨tS K d_is_house, ?_, body_of (N := ["many", "thing"]) h⟩)
  exact (ds_one (dS_ret (de_and (de_callG G_is_whole hr rfl (da_cons (do_ex (de_var 1)) da_nil)) (de_one (de_chain op_le ok_le op_lt ok_lt (do_ex de_int) (do_vr 1) (do_vr 0))))))
/-! ### is_price -/
def d_is_price : Sf := (sRet (eAnd (eCall [false] g_is_whole [(.ex (eVar 0))]) (eChain gLe gLe (.ex (eC (.int 1))) (.vr 0) (.ex (eC (.int 99))))))
def g_is_price : List D → Option (D × List D) := gOf 1 [false] d_is_price
theorem sc_is_price : FnScope ["thing"] ["thing"] (defScope (top 5)) := ⟨rfl, rfl, rfl, by decide +kernel, rfl, by decide +kernel, by decide +kernel⟩
theorem ok_is_price {f : Addr} {fd : FuncData} (F : FnP K "is_price" (top 5) f fd) (Z : Zs mg) (G_is_whole : Got P w K mg base 1 "is_whole" ["thing"] (spD K [false] false g_is_whole)) : FnOk P w K mg base CX0 2 f fd ["thing"] (spD K [false] false g_is_price) := by
  refine okP F sc_is_price (spD_len rfl) (fun cdv A outer s H vs Q E hr h => ⟨tS K d_is_price, ?_, body_of (N := ["thing"]) h⟩)
  exact (ds_one (dS_ret (de_and (de_callG G_is_whole hr rfl (da_cons (do_ex (de_var 0)) da_nil)) (de_one (de_chain op_le ok_le op_le ok_le (do_ex de_int) (do_vr 0) (do_ex (de_globInt rfl Z.c_MOST_PRICE.choose_spec)))))))
/-! ### is_told_tie -/
def d_is_told_tie : Sf := (sq (sIf (bOr (bNot (bD (op1 (gIsi "tuple") (.vr 1)))) (bD (op2 gNe (.ex (opA gLen [(.vr 1)])) (.ex (eC (.int 2)))))) (sRet (eC (.bool false))) sNx) (sRet (eAnd (eCall [false, false] g_is_house [(.ex (eC (.int 8))), (.ex (op2 gIx (.vr 1) (.ex (eC (.int 0)))))]) (eAnd (op2 gNe (.ex (op2 gIx (.vr 1) (.ex (eC (.int 0))))) (.vr 0)) (eCall [false] g_is_price [(.ex (op2 gIx (.vr 1) (.ex (eC (.int 1)))))])))))
def g_is_told_tie : List D → Option (D × List D) := gOf 2 [false, false] d_is_told_tie
theorem sc_is_told_tie : FnScope ["house", "thing"] ["house", "thing"] (defScope (top 8)) := ⟨rfl, rfl, rfl, by decide +kernel, rfl, by decide +kernel, by decide +kernel⟩
theorem ok_is_told_tie {f : Addr} {fd : FuncData} (F : FnP K "is_told_tie" (top 8) f fd) (Z : Zs mg) (G_is_house : Got P w K mg base 2 "is_house" ["many", "thing"] (spD K [false, false] false g_is_house)) (G_is_price : Got P w K mg base 2 "is_price" ["thing"] (spD K [false] false g_is_price)) : FnOk P w K mg base CX0 3 f fd ["house", "thing"] (spD K [false, false] false g_is_told_tie) := by
  refine okP F sc_is_told_tie (spD_len rfl) (fun cdv A outer s H vs Q E hr h => ⟨tS K d_is_told_tie, ?_, body_of (N := ["house", "thing"]) h⟩)
  exact (ds_cons (dS_if (PW.pt (dw_or (dt_not (dt_val (de_isi (by decide +kernel) rfl Z.z_isinstance (do_vr 1) rfl Z.z_tuple (by decide +kernel)))) (dw_or1 (dt_cmp (op_nes hr.units) ok_ne (do_ex (de_callB call_len1 ok_len rfl Z.z_len (by decide +kernel) (da_cons (do_vr 1) da_nil))) (do_ex de_int) (nomark _))))) (ds_one (dS_ret de_bool)) ds_nil)
      (ds_one (dS_ret (de_and (de_callG G_is_house hr rfl (da_cons (do_ex (de_globInt rfl Z.c_MOST_HOUSES.choose_spec)) (da_cons (do_ex (de_ix (do_vr 1) (do_ex de_int) (fun _ _ => rfl))) da_nil))) (de_and (de_cmp (op_nes hr.units) ok_ne (do_ex (de_ix (do_vr 1) (do_ex de_int) (fun _ _ => rfl))) (do_vr 0) (nomark _)) (de_one (de_callG G_is_price hr rfl (da_cons (do_ex (de_ix (do_vr 1) (do_ex de_int) (fun _ _ => rfl))) da_nil))))))))
/-! ### are_told_ties -/
def d_are_told_ties : Sf := (sq (sIf (bOr (bNot (bD (op1 (gIsi "tuple") (.vr 1)))) (bNot (bD (opA gAll [(.ex (eLc [2] (tgName 2) (iT (eVar 1)) bTrue (eCall [false, false] g_is_told_tie [(.ex (eVar 0)), (.ex (eVar 2))])))])))) (sRet (eC (.bool false))) sNx) (sRet (opA gAll [(.ex (eLc [2, 3] (tgTup (tgsCons (tgName 2) (tgsCons (tgName 3) tgsNil))) (iZipT (eVar 1) (eSlice gCut (.vr 1) (pAt (eC (.int 1))) pNo)) bTrue (op2 gLt (.ex (op2 gIx (.vr 2) (.ex (eC (.int 0))))) (.ex (op2 gIx (.vr 3) (.ex (eC (.int 0))))))))])))
def g_are_told_ties : List D → Option (D × List D) := gOf 4 [false, false] d_are_told_ties
theorem sc_are_told_ties : FnScope ["house", "thing", "one", "other"] ["house", "thing"] (defScope (top 9)) := ⟨rfl, rfl, rfl, by decide +kernel, rfl, by decide +kernel, by decide +kernel⟩
theorem ok_are_told_ties {f : Addr} {fd : FuncData} (F : FnP K "are_told_ties" (top 9) f fd) (Z : Zs mg) (G_is_told_tie : Got P w K mg base 3 "is_told_tie" ["house", "thing"] (spD K [false, false] false g_is_told_tie)) : FnOk P w K mg base CX0 4 f fd ["house", "thing"] (spD K [false, false] false g_are_told_ties) := by
  refine okP F sc_are_told_ties (spD_len rfl) (fun cdv A outer s H vs Q E hr h => ⟨tS K d_are_told_ties, ?_, body_of (N := ["house", "thing", "one", "other"]) h⟩)
  exact (ds_cons (dS_if (PW.pt (dw_or (dt_not (dt_val (de_isi (by decide +kernel) rfl Z.z_isinstance (do_vr 1) rfl Z.z_tuple (by decide +kernel)))) (dw_or1 (dt_not (dt_val (de_callB (cr_all rfl) ok_all rfl Z.z_all (by decide +kernel) (da_cons (do_ex (de_new (de_lc (own := [("one", 2)]) rfl sc_are_told_ties.nd (ts := [2]) (by decide) (di_tup (de_var 1)) (blkOk_by (own := [("one", 2)]) (N := ["house", "thing", "one", "other"]) (sc := (defScope (top 9))) (by decide +kernel)) (fun _ _ _ _ _ => (dg_name 2 sc_are_told_ties.nd)) (fun _ _ _ _ _ => dts_nil) (fun _ _ _ _ _ => (de_callG G_is_told_tie hr rfl (da_cons (do_ex (de_var 0)) (da_cons (do_ex (de_var 2)) da_nil))))))) da_nil))))))) (ds_one (dS_ret de_bool)) ds_nil)
      (ds_one (dS_ret (de_callB (cr_all rfl) ok_all rfl Z.z_all (by decide +kernel) (da_cons (do_ex (de_new (de_lc (own := [("one", 2), ("other", 3)]) rfl sc_are_told_ties.nd (ts := [2, 3]) (by decide) (di_zipT rfl Z.z_zip (de_var 1) (de_slice (do_vr 1) (dp_some de_int) dp_none)) (blkOk_by (own := [("one", 2), ("other", 3)]) (N := ["house", "thing", "one", "other"]) (sc := (defScope (top 9))) (by decide +kernel)) (fun _ _ _ _ _ => (dg_tup rfl (dgs_cons (dg_name 2 sc_are_told_ties.nd) (dgs_cons (dg_name 3 sc_are_told_ties.nd) dgs_nil)) (takes_cons (takes_cons takes_nil)))) (fun _ _ _ _ _ => dts_nil) (fun _ _ _ _ _ => (de_cmp op_lt ok_lt (do_ex (de_ix (do_vr 2) (do_ex de_int) (fun _ _ => rfl))) (do_ex (de_ix (do_vr 3) (do_ex de_int) (fun _ _ => rfl))) (nomark _)))))) da_nil)))))
/-! ### is_sheet -/
def d_is_sheet : Sf := (sq (sIf (bOr (bNot (bD (op1 (gIsi "tuple") (.vr 0)))) (bD (op2 gNe (.ex (opA gLen [(.vr 0)])) (.ex (eC (.int 5)))))) (sRet (eC (.bool false))) sNx) (sq (sUnp (tgTup (tgsCons (tgName 1) (tgsCons (tgName 2) (tgsCons (tgName 3) (tgsCons (tgName 4) (tgsCons (tgName 5) tgsNil)))))) (eVar 0)) (sq (sIf (bOr (bNot (bD (eCall [false, false] g_is_house [(.ex (eC (.int 8))), (.ex (eVar 1))]))) (bOr (bNot (bD (eCall [false] g_is_whole [(.ex (eVar 2))]))) (bOr (bD (op2 gLt (.vr 2) (.ex (eC (.int 1))))) (bNot (bD (op1 (gIsi "bool") (.vr 3))))))) (sRet (eC (.bool false))) sNx) (sq (sIf (bOr (bNot (bD (eCall [false, false] g_are_told_ties [(.ex (eVar 1)), (.ex (eVar 4))]))) (bAnd (bD (eVar 3)) (bD (op2 gNe (.vr 4) (.ex (eTup [])))))) (sRet (eC (.bool false))) sNx) (sRet (eAnd (eCall [false] g_is_whole [(.ex (eVar 5))]) (eChain gLe gLe (.ex (eC (.int 0))) (.vr 5) (.ex (eC (.int 40))))))))))
def g_is_sheet : List D → Option (D × List D) := gOf 6 [false] d_is_sheet
theorem sc_is_sheet : FnScope ["thing", "house", "number", "ended", "ties", "age"] ["thing"] (defScope (top 10)) := ⟨rfl, rfl, rfl, by decide +kernel, rfl, by decide +kernel, by decide +kernel⟩
theorem ok_is_sheet {f : Addr} {fd : FuncData} (F : FnP K "is_sheet" (top 10) f fd) (Z : Zs mg) (G_is_whole : Got P w K mg base 1 "is_whole" ["thing"] (spD K [false] false g_is_whole)) (G_is_house : Got P w K mg base 2 "is_house" ["many", "thing"] (spD K [false, false] false g_is_house)) (G_are_told_ties : Got P w K mg base 4 "are_told_ties" ["house", "thing"] (spD K [false, false] false g_are_told_ties)) : FnOk P w K mg base CX0 5 f fd ["thing"] (spD K [false] false g_is_sheet) := by
  refine okP F sc_is_sheet (spD_len rfl) (fun cdv A outer s H vs Q E hr h => ⟨tS K d_is_sheet, ?_, body_of (N := ["thing", "house", "number", "ended", "ties", "age"]) h⟩)
  exact (ds_cons (dS_if (PW.pt (dw_or (dt_not (dt_val (de_isi (by decide +kernel) rfl Z.z_isinstance (do_vr 0) rfl Z.z_tuple (by decide +kernel)))) (dw_or1 (dt_cmp (op_nes hr.units) ok_ne (do_ex (de_callB call_len1 ok_len rfl Z.z_len (by decide +kernel) (da_cons (do_vr 0) da_nil))) (do_ex de_int) (nomark _))))) (ds_one (dS_ret de_bool)) ds_nil)
      (ds_cons (dS_unp (ts := [1, 2, 3, 4, 5]) (de_var 0) (dg_tup rfl (dgs_cons (dg_name 1 sc_is_sheet.nd) (dgs_cons (dg_name 2 sc_is_sheet.nd) (dgs_cons (dg_name 3 sc_is_sheet.nd) (dgs_cons (dg_name 4 sc_is_sheet.nd) (dgs_cons (dg_name 5 sc_is_sheet.nd) dgs_nil))))) (takes_cons (takes_cons (takes_cons (takes_cons (takes_cons takes_nil)))))))
      (ds_cons (dS_if (PW.pt (dw_or (dt_not (dt_val (de_callG G_is_house hr rfl (da_cons (do_ex (de_globInt rfl Z.c_MOST_HOUSES.choose_spec)) (da_cons (do_ex (de_var 1)) da_nil))))) (dw_or (dt_not (dt_val (de_callG G_is_whole hr rfl (da_cons (do_ex (de_var 2)) da_nil)))) (dw_or (dt_cmp op_lt ok_lt (do_vr 2) (do_ex de_int) (nomark _)) (dw_or1 (dt_not (dt_val (de_isi (by decide +kernel) rfl Z.z_isinstance (do_vr 3) rfl Z.z_bool (by decide +kernel))))))))) (ds_one (dS_ret de_bool)) ds_nil)
      (ds_cons (dS_if (PW.pt (dw_or (dt_not (dt_val (de_callG G_are_told_ties hr rfl (da_cons (do_ex (de_var 1)) (da_cons (do_ex (de_var 4)) da_nil))))) (dw_or1 (PW.pt (dw_and (dt_val (de_var 3)) (dw_and1 (dt_cmp (op_nes hr.units) ok_ne (do_vr 4) (do_ex (de_tup da_nil)) (nomark _)))))))) (ds_one (dS_ret de_bool)) ds_nil)
      (ds_one (dS_ret (de_and (de_callG G_is_whole hr rfl (da_cons (do_ex (de_var 5)) da_nil)) (de_one (de_chain op_le ok_le op_le ok_le (do_ex de_int) (do_vr 5) (do_ex (de_globInt rfl Z.c_MOST_AGE.choose_spec)))))))))))
/-! ### _law_cell_at -/
def d__law_cell_at : Sf := (sq (sIf (bD (op2 gLt (.vr 1) (.ex (opA gLen [(.vr 0)])))) (sRet (op2 gIx (.vr 0) (.vr 1))) sNx) (sRet (eC (.int 0))))
def g__law_cell_at : List D → Option (D × List D) := gOf 2 [false, false] d__law_cell_at
theorem sc__law_cell_at : FnScope ["_law_script", "_law_k"] ["_law_script", "_law_k"] (defScope (top 12)) := ⟨rfl, rfl, rfl, by decide +kernel, rfl, by decide +kernel, by decide +kernel⟩
theorem ok__law_cell_at {f : Addr} {fd : FuncData} (F : FnP K "_law_cell_at" (top 12) f fd) (Z : Zs mg)  : FnOk P w K mg base CX0 1 f fd ["_law_script", "_law_k"] (spD K [false, false] false g__law_cell_at) := by
  refine okP F sc__law_cell_at (spD_len rfl) (fun cdv A outer s H vs Q E hr h => ⟨tS K d__law_cell_at, ?_, body_of (N := ["_law_script", "_law_k"]) h⟩)
  exact (ds_cons (dS_if (dt_cmp op_lt ok_lt (do_vr 1) (do_ex (de_callB call_len1 ok_len rfl Z.z_len (by decide +kernel) (da_cons (do_vr 0) da_nil))) (nomark _)) (ds_one (dS_ret (de_ix (do_vr 0) (do_vr 1) (fun _ _ => rfl)))) ds_nil)
      (ds_one (dS_ret de_int)))
/-! ### _law_pool -/
def d__law_pool : Sf := (sq (sSet 2 (eCall [false, false] g__law_cell_at [(.ex (eVar 0)), (.ex (eVar 1))])) (sq (sSet 3 (op2 gMod (.ex (op2 gMuls (.ex (op2 gAdd (.ex (op2 gAdd (.ex (op2 gMod (.vr 2) (.ex (eC (.int 2147483629))))) (.ex (op2 gMuls (.ex (op2 gMuls (.ex (eC (.int 7919))) (.vr 1))) (.vr 1))))) (.ex (eC (.int 1))))) (.ex (eC (.int 48271))))) (.ex (eC (.int 2147483647))))) (sq (sIf (bD (op2 gLt (.vr 2) (.ex (op2 gPow (.ex (eC (.int 10))) (.ex (eC (.int 18))))))) (sSet 2 (eC (.int 0))) sNx) (sRetN (eLst [(.ex (eVar 2)), (.ex (op2 gMod (.ex (op2 gMuls (.vr 3) (.vr 3))) (.ex (eC (.int 2147483629)))))])))))
def g__law_pool : List D → Option (D × List D) := gOfN 4 [false, false] d__law_pool
theorem sc__law_pool : FnScope ["_law_script", "_law_k", "_law_cell", "_law_seed"] ["_law_script", "_law_k"] (defScope (top 13)) := ⟨rfl, rfl, rfl, by decide +kernel, rfl, by decide +kernel, by decide +kernel⟩
theorem ok__law_pool {f : Addr} {fd : FuncData} (F : FnP K "_law_pool" (top 13) f fd) (Z : Zs mg) (G__law_cell_at : Got P w K mg base 1 "_law_cell_at" ["_law_script", "_law_k"] (spD K [false, false] false g__law_cell_at)) : FnOk P w K mg base CX0 2 f fd ["_law_script", "_law_k"] (spD K [false, false] true g__law_pool) := by
  refine okP F sc__law_pool (spD_len rfl) (fun cdv A outer s H vs Q E hr h => ⟨tS K d__law_pool, ?_, bodyN_of (N := ["_law_script", "_law_k", "_law_cell", "_law_seed"]) h⟩)
  exact (ds_cons (dS_set (i := 2) sc__law_pool.nd (de_callG G__law_cell_at hr rfl (da_cons (do_ex (de_var 0)) (da_cons (do_ex (de_var 1)) da_nil))))
      (ds_cons (dS_set (i := 3) sc__law_pool.nd (de_op op_mod ok_mod (do_ex (de_op op_muls ok_muls (do_ex (de_op op_adds ok_adds (do_ex (de_op op_adds ok_adds (do_ex (de_op op_mod ok_mod (do_vr 2) (do_ex de_int))) (do_ex (de_op op_muls ok_muls (do_ex (de_op op_muls ok_muls (do_ex de_int) (do_vr 1))) (do_vr 1))))) (do_ex de_int))) (do_ex de_int))) (do_ex de_int)))
      (ds_cons (dS_if (dt_cmp op_lt ok_lt (do_vr 2) (do_ex (de_op op_pow ok_pow (do_ex de_int) (do_ex de_int))) (nomark _)) (ds_one (dS_set (i := 2) sc__law_pool.nd de_int)) ds_nil)
      (ds_one (dS_retN (de_lst (da_cons (do_ex (de_var 2)) (da_cons (do_ex (de_op op_mod ok_mod (do_ex (de_op op_muls ok_muls (do_vr 3) (do_vr 3))) (do_ex de_int))) da_nil))))))))
/-! ### _law_take -/
def d__law_take : Sf := (sq (sIf (bD (op2 gGt (.ex (op2 gIx (.vr 0) (.ex (eC (.int 0))))) (.ex (eC (.int 0))))) (sq (sSet 2 (op2 gMod (.ex (op2 gIx (.vr 0) (.ex (eC (.int 0))))) (.vr 1))) (sq (sSetIx 0 (op2 gDiv (.ex (op2 gIx (.vr 0) (.ex (eC (.int 0))))) (.vr 1)) (.ex (eC (.int 0)))) (sRet (eVar 2)))) sNx) (sq (sSetIx 0 (op2 gMod (.ex (op2 gAdd (.ex (op2 gMuls (.ex (op2 gIx (.vr 0) (.ex (eC (.int 1))))) (.ex (eC (.int 48271))))) (.ex (eC (.int 11))))) (.ex (eC (.int 2147483647)))) (.ex (eC (.int 1)))) (sRet (op2 gMod (.ex (op2 gDiv (.ex (op2 gMod (.ex (op2 gMuls (.ex (op2 gIx (.vr 0) (.ex (eC (.int 1))))) (.ex (op2 gIx (.vr 0) (.ex (eC (.int 1))))))) (.ex (eC (.int 2147483629))))) (.ex (eC (.int 64))))) (.vr 1)))))
def g__law_take : List D → Option (D × List D) := gOf 3 [true, false] d__law_take
theorem sc__law_take : FnScope ["_law_pool_here", "_law_many", "_law_found"] ["_law_pool_here", "_law_many"] (defScope (top 14)) := ⟨rfl, rfl, rfl, by decide +kernel, rfl, by decide +kernel, by decide +kernel⟩
theorem ok__law_take {f : Addr} {fd : FuncData} (F : FnP K "_law_take" (top 14) f fd) (Z : Zs mg)  : FnOk P w K mg base CX0 1 f fd ["_law_pool_here", "_law_many"] (spD K [true, false] false g__law_take) := by
  refine okP F sc__law_take (spD_len rfl) (fun cdv A outer s H vs Q E hr h => ⟨tS K d__law_take, ?_, body_of (N := ["_law_pool_here", "_law_many", "_law_found"]) h⟩)
  exact (ds_cons (dS_if (dt_cmp op_gt ok_gt (do_ex (de_ix (do_vr 0) (do_ex de_int) (fun _ _ => rfl))) (do_ex de_int) (nomark _)) (ds_cons (dS_set (i := 2) sc__law_take.nd (de_op op_mod ok_mod (do_ex (de_ix (do_vr 0) (do_ex de_int) (fun _ _ => rfl))) (do_vr 1)))
      (ds_cons (dS_setIx (i := 0) (de_op op_fdivW ok_div (do_ex (de_ix (do_vr 0) (do_ex de_int) (fun _ _ => rfl))) (do_vr 1)) (do_ex de_int))
      (ds_one (dS_ret (de_var 2))))) ds_nil)
      (ds_cons (dS_setIx (i := 0) (de_op op_mod ok_mod (do_ex (de_op op_adds ok_adds (do_ex (de_op op_muls ok_muls (do_ex (de_ix (do_vr 0) (do_ex de_int) (fun _ _ => rfl))) (do_ex de_int))) (do_ex de_int))) (do_ex de_int)) (do_ex de_int))
      (ds_one (dS_ret (de_op op_mod ok_mod (do_ex (de_op op_fdivW ok_div (do_ex (de_op op_mod ok_mod (do_ex (de_op op_muls ok_muls (do_ex (de_ix (do_vr 0) (do_ex de_int) (fun _ _ => rfl))) (do_ex (de_ix (do_vr 0) (do_ex de_int) (fun _ _ => rfl))))) (do_ex de_int))) (do_ex de_int))) (do_vr 1))))))
/-! ### _law_below -/
def d__law_below : Sf := (sRet (eAnd (op1 (gIsi "int") (.vr 0)) (eAnd (eNot (op1 (gIsi "bool") (.vr 0))) (eChain gLe gLt (.ex (eC (.int 0))) (.vr 0) (.vr 1)))))
def g__law_below : List D → Option (D × List D) := gOf 2 [false, false] d__law_below
theorem sc__law_below : FnScope ["_law_thing", "_law_many"] ["_law_thing", "_law_many"] (defScope (top 15)) := ⟨rfl, rfl, rfl, by decide +kernel, rfl, by decide +kernel, by decide +kernel⟩
theorem ok__law_below {f : Addr} {fd : FuncData} (F : FnP K "_law_below" (top 15) f fd) (Z : Zs mg)  : FnOk P w K mg base CX0 1 f fd ["_law_thing", "_law_many"] (spD K [false, false] false g__law_below) := by
  refine okP F sc__law_below (spD_len rfl) (fun cdv A outer s H vs Q E hr h => ⟨tS K d__law_below, ?_, body_of (N := ["_law_thing", "_law_many"]) h⟩)
  exact (ds_one (dS_ret (de_and (de_isi (by decide +kernel) rfl Z.z_isinstance (do_vr 0) rfl Z.z_int (by decide +kernel)) (de_and (de_not (de_isi (by decide +kernel) rfl Z.z_isinstance (do_vr 0) rfl Z.z_bool (by decide +kernel))) (de_one (de_chain op_le ok_le op_lt ok_lt (do_ex de_int) (do_vr 0) (do_vr 1)))))))
/-! ### _law_is -/
def d__law_is : Sf := (sq (sIf (bOr (bNot (bD (op1 (gIsi "tuple") (.vr 0)))) (bD (op2 gNe (.ex (opA gLen [(.vr 0)])) (.ex (eC (.int 5)))))) (sRet (eC (.bool false))) sNx) (sq (sUnp (tgTup (tgsCons (tgName 1) (tgsCons (tgName 2) (tgsCons (tgName 3) (tgsCons (tgName 4) (tgsCons (tgName 5) tgsNil)))))) (eVar 0)) (sq (sIf (bOr (bNot (bD (eCall [false, false] g__law_below [(.ex (eVar 1)), (.ex (eC (.int 8)))]))) (bOr (bNot (bD (eCall [false, false] g__law_below [(.ex (eVar 2)), (.ex (op2 gPow (.ex (eC (.int 10))) (.ex (eC (.int 60)))))]))) (bOr (bD (op2 gEq (.vr 2) (.ex (eC (.int 0))))) (bNot (bD (op1 (gIsi "bool") (.vr 3))))))) (sRet (eC (.bool false))) sNx) (sq (sIf (bOr (bNot (bD (op1 (gIsi "tuple") (.vr 4)))) (bNot (bD (eCall [false, false] g__law_below [(.ex (eVar 5)), (.ex (eC (.int 41)))])))) (sRet (eC (.bool false))) sNx) (sq (sFor (tgTup (tgsCons (tgName 6) (tgsCons (tgName 7) tgsNil))) (iEnT (eVar 4)) (sq (sIf (bOr (bNot (bD (op1 (gIsi "tuple") (.vr 7)))) (bOr (bD (op2 gNe (.ex (opA gLen [(.vr 7)])) (.ex (eC (.int 2))))) (bOr (bNot (bD (eCall [false, false] g__law_below [(.ex (op2 gIx (.vr 7) (.ex (eC (.int 0))))), (.ex (eC (.int 8)))]))) (bD (op2 gEq (.ex (op2 gIx (.vr 7) (.ex (eC (.int 0))))) (.vr 1)))))) (sRet (eC (.bool false))) sNx) (sIf (bOr (bNot (bD (eCall [false, false] g__law_below [(.ex (op2 gIx (.vr 7) (.ex (eC (.int 1))))), (.ex (eC (.int 100)))]))) (bOr (bD (op2 gEq (.ex (op2 gIx (.vr 7) (.ex (eC (.int 1))))) (.ex (eC (.int 0))))) (bAnd (bD (op2 gGt (.vr 6) (.ex (eC (.int 0))))) (bD (op2 gLe (.ex (op2 gIx (.vr 7) (.ex (eC (.int 0))))) (.ex (op2 gIx (.ex (op2 gIx (.vr 4) (.ex (op2 gSub (.vr 6) (.ex (eC (.int 1))))))) (.ex (eC (.int 0)))))))))) (sRet (eC (.bool false))) sNx))) (sRet (eOr (eNot (eVar 3)) (op2 gEq (.vr 4) (.ex (eTup []))))))))))
def g__law_is : List D → Option (D × List D) := gOf 8 [false] d__law_is
theorem sc__law_is : FnScope ["_law_thing", "_law_house", "_law_number", "_law_ended", "_law_ties", "_law_age", "_law_k", "_law_tie"] ["_law_thing"] (defScope (top 16)) := ⟨rfl, rfl, rfl, by decide +kernel, rfl, by decide +kernel, by decide +kernel⟩
theorem ok__law_is {f : Addr} {fd : FuncData} (F : FnP K "_law_is" (top 16) f fd) (Z : Zs mg) (G__law_below : Got P w K mg base 1 "_law_below" ["_law_thing", "_law_many"] (spD K [false, false] false g__law_below)) : FnOk P w K mg base CX0 2 f fd ["_law_thing"] (spD K [false] false g__law_is) := by
  refine okP F sc__law_is (spD_len rfl) (fun cdv A outer s H vs Q E hr h => ⟨tS K d__law_is, ?_, body_of (N := ["_law_thing", "_law_house", "_law_number", "_law_ended", "_law_ties", "_law_age", "_law_k", "_law_tie"]) h⟩)
  exact (ds_cons (dS_if (PW.pt (dw_or (dt_not (dt_val (de_isi (by decide +kernel) rfl Z.z_isinstance (do_vr 0) rfl Z.z_tuple (by decide +kernel)))) (dw_or1 (dt_cmp (op_nes hr.units) ok_ne (do_ex (de_callB call_len1 ok_len rfl Z.z_len (by decide +kernel) (da_cons (do_vr 0) da_nil))) (do_ex de_int) (nomark _))))) (ds_one (dS_ret de_bool)) ds_nil)
      (ds_cons (dS_unp (ts := [1, 2, 3, 4, 5]) (de_var 0) (dg_tup rfl (dgs_cons (dg_name 1 sc__law_is.nd) (dgs_cons (dg_name 2 sc__law_is.nd) (dgs_cons (dg_name 3 sc__law_is.nd) (dgs_cons (dg_name 4 sc__law_is.nd) (dgs_cons (dg_name 5 sc__law_is.nd) dgs_nil))))) (takes_cons (takes_cons (takes_cons (takes_cons (takes_cons takes_nil)))))))
      (ds_cons (dS_if (PW.pt (dw_or (dt_not (dt_val (de_callG G__law_below hr rfl (da_cons (do_ex (de_var 1)) (da_cons (do_ex de_int) da_nil))))) (dw_or (dt_not (dt_val (de_callG G__law_below hr rfl (da_cons (do_ex (de_var 2)) (da_cons (do_ex (de_op op_pow ok_pow (do_ex de_int) (do_ex de_int))) da_nil))))) (dw_or (dt_cmp (op_eqs hr.units) ok_eq (do_vr 2) (do_ex de_int) (nomark _)) (dw_or1 (dt_not (dt_val (de_isi (by decide +kernel) rfl Z.z_isinstance (do_vr 3) rfl Z.z_bool (by decide +kernel))))))))) (ds_one (dS_ret de_bool)) ds_nil)
      (ds_cons (dS_if (PW.pt (dw_or (dt_not (dt_val (de_isi (by decide +kernel) rfl Z.z_isinstance (do_vr 4) rfl Z.z_tuple (by decide +kernel)))) (dw_or1 (dt_not (dt_val (de_callG G__law_below hr rfl (da_cons (do_ex (de_var 5)) (da_cons (do_ex de_int) da_nil)))))))) (ds_one (dS_ret de_bool)) ds_nil)
      (ds_cons (dS_for (ts := [6, 7]) PassesOwn.never rfl (di_enumT rfl Z.z_enumerate (de_var 4)) (dg_tup rfl (dgs_cons (dg_name 6 sc__law_is.nd) (dgs_cons (dg_name 7 sc__law_is.nd) dgs_nil)) (takes_cons (takes_cons takes_nil))) (ds_cons (dS_if (PW.pt (dw_or (dt_not (dt_val (de_isi (by decide +kernel) rfl Z.z_isinstance (do_vr 7) rfl Z.z_tuple (by decide +kernel)))) (dw_or (dt_cmp (op_nes hr.units) ok_ne (do_ex (de_callB call_len1 ok_len rfl Z.z_len (by decide +kernel) (da_cons (do_vr 7) da_nil))) (do_ex de_int) (nomark _)) (dw_or (dt_not (dt_val (de_callG G__law_below hr rfl (da_cons (do_ex (de_ix (do_vr 7) (do_ex de_int) (fun _ _ => rfl))) (da_cons (do_ex de_int) da_nil))))) (dw_or1 (dt_cmp (op_eqs hr.units) ok_eq (do_ex (de_ix (do_vr 7) (do_ex de_int) (fun _ _ => rfl))) (do_vr 1) (nomark _))))))) (ds_one (dS_ret de_bool)) ds_nil)
      (ds_one (dS_if (PW.pt (dw_or (dt_not (dt_val (de_callG G__law_below hr rfl (da_cons (do_ex (de_ix (do_vr 7) (do_ex de_int) (fun _ _ => rfl))) (da_cons (do_ex de_int) da_nil))))) (dw_or (dt_cmp (op_eqs hr.units) ok_eq (do_ex (de_ix (do_vr 7) (do_ex de_int) (fun _ _ => rfl))) (do_ex de_int) (nomark _)) (dw_or1 (PW.pt (dw_and (dt_cmp op_gt ok_gt (do_vr 6) (do_ex de_int) (nomark _)) (dw_and1 (dt_cmp op_le ok_le (do_ex (de_ix (do_vr 7) (do_ex de_int) (fun _ _ => rfl))) (do_ex (de_ix (do_ex (de_ix (do_vr 4) (do_ex (de_op op_sub ok_sub (do_vr 6) (do_ex de_int))) (fun _ _ => rfl))) (do_ex de_int) (fun _ _ => rfl))) (nomark _))))))))) (ds_one (dS_ret de_bool)) ds_nil))))
      (ds_one (dS_ret (de_or (de_not (de_var 3)) (de_one (de_cmp (op_eqs hr.units) ok_eq (do_vr 4) (do_ex (de_tup da_nil)) (nomark _)))))))))))
/-! ### _law_sheet -/
def d__law_sheet : Sf := (sq (sSet 1 (eCall [true, false] g__law_take [(.vr 0), (.ex (eC (.int 8)))])) (sq (sSet 2 (op2 gAdd (.ex (eC (.int 1))) (.ex (op2 gIx (.ex (eLst [(.ex (eCall [true, false] g__law_take [(.vr 0), (.ex (eC (.int 9)))])), (.ex (eCall [true, false] g__law_take [(.vr 0), (.ex (op2 gPow (.ex (eC (.int 10))) (.ex (eC (.int 30)))))]))])) (.ex (eCall [true, false] g__law_take [(.vr 0), (.ex (eC (.int 2)))])))))) (sq (sSet 3 (op2 gEq (.ex (eCall [true, false] g__law_take [(.vr 0), (.ex (eC (.int 4)))])) (.ex (eC (.int 0))))) (sq (sSetN 5 (eLc [4] (tgName 4) (iR1 (.ex (eC (.int 8)))) (bAnd (bD (op2 gNe (.vr 4) (.vr 1))) (bD (op2 gEq (.ex (eCall [true, false] g__law_take [(.vr 0), (.ex (eC (.int 2)))])) (.ex (eC (.int 0)))))) (eTup [(.ex (eVar 4)), (.ex (op2 gAdd (.ex (eC (.int 1))) (.ex (eCall [true, false] g__law_take [(.vr 0), (.ex (eC (.int 99)))]))))]))) (sRet (eTup [(.ex (eVar 1)), (.ex (eVar 2)), (.ex (eVar 3)), (.ex (op2 gMuls (.ex (opA gTuple [(.vr 5)])) (.ex (opA gInt [(.ex (eNot (eVar 3)))])))), (.ex (eCall [true, false] g__law_take [(.vr 0), (.ex (eC (.int 41)))]))]))))))
def g__law_sheet : List D → Option (D × List D) := gOf 6 [true] d__law_sheet
theorem sc__law_sheet : FnScope ["_law_pool_here", "_law_house", "_law_number", "_law_ended", "_law_one", "_law_ties"] ["_law_pool_here"] (defScope (top 17)) := ⟨rfl, rfl, rfl, by decide +kernel, rfl, by decide +kernel, by decide +kernel⟩
theorem ok__law_sheet {f : Addr} {fd : FuncData} (F : FnP K "_law_sheet" (top 17) f fd) (Z : Zs mg) (G__law_take : Got P w K mg base 1 "_law_take" ["_law_pool_here", "_law_many"] (spD K [true, false] false g__law_take)) : FnOk P w K mg base CX0 2 f fd ["_law_pool_here"] (spD K [true] false g__law_sheet) := by
  refine okP F sc__law_sheet (spD_len rfl) (fun cdv A outer s H vs Q E hr h => ⟨tS K d__law_sheet, ?_, body_of (N := ["_law_pool_here", "_law_house", "_law_number", "_law_ended", "_law_one", "_law_ties"]) h⟩)
  exact (ds_cons (dS_set (i := 1) sc__law_sheet.nd (de_callG G__law_take hr rfl (da_cons (do_vr 0) (da_cons (do_ex de_int) da_nil))))
      (ds_cons (dS_set (i := 2) sc__law_sheet.nd (de_op op_adds ok_adds (do_ex de_int) (do_ex (de_ix (do_ex (de_new (de_lst (da_cons (do_ex (de_callG G__law_take hr rfl (da_cons (do_vr 0) (da_cons (do_ex de_int) da_nil)))) (da_cons (do_ex (de_callG G__law_take hr rfl (da_cons (do_vr 0) (da_cons (do_ex (de_op op_pow ok_pow (do_ex de_int) (do_ex de_int))) da_nil)))) da_nil))))) (do_ex (de_callG G__law_take hr rfl (da_cons (do_vr 0) (da_cons (do_ex de_int) da_nil)))) (fun _ _ => rfl)))))
      (ds_cons (dS_set (i := 3) sc__law_sheet.nd (de_cmp (op_eqs hr.units) ok_eq (do_ex (de_callG G__law_take hr rfl (da_cons (do_vr 0) (da_cons (do_ex de_int) da_nil)))) (do_ex de_int) (nomark _)))
      (ds_cons (dS_setLc (i := 5) (own := [("_law_one", 4)]) rfl sc__law_sheet.nd (ts := [4]) (by decide) (sw_true rfl rfl rfl (by decide +kernel)) (di_range1 rfl Z.z_range (do_ex de_int)) (blkOk_by (own := [("_law_one", 4)]) (N := ["_law_pool_here", "_law_house", "_law_number", "_law_ended", "_law_one", "_law_ties"]) (sc := (defScope (top 17))) (by decide +kernel)) (fun _ _ _ _ _ => (dg_name 4 sc__law_sheet.nd)) (fun _ _ _ _ _ => (dts_one (PW.pt (dw_and (dt_cmp (op_nes hr.units) ok_ne (do_vr 4) (do_vr 1) (nomark _)) (dw_and1 (dt_cmp (op_eqs hr.units) ok_eq (do_ex (de_callG G__law_take hr rfl (da_cons (do_vr 0) (da_cons (do_ex de_int) da_nil)))) (do_ex de_int) (nomark _))))))) (fun _ _ _ _ _ => (de_tup (da_cons (do_ex (de_var 4)) (da_cons (do_ex (de_op op_adds ok_adds (do_ex de_int) (do_ex (de_callG G__law_take hr rfl (da_cons (do_vr 0) (da_cons (do_ex de_int) da_nil)))))) da_nil)))))
      (ds_one (dS_ret (de_tup (da_cons (do_ex (de_var 1)) (da_cons (do_ex (de_var 2)) (da_cons (do_ex (de_var 3)) (da_cons (do_ex (de_op op_muls ok_muls (do_ex (de_callTy call_tuple_of ok_tuple rfl Z.z_tuple (by decide +kernel) (da_cons (do_vr 5) da_nil))) (do_ex (de_callTy call_int1 ok_int rfl Z.z_int (by decide +kernel) (da_cons (do_ex (de_not (de_var 3))) da_nil))))) (da_cons (do_ex (de_callG G__law_take hr rfl (da_cons (do_vr 0) (da_cons (do_ex de_int) da_nil)))) da_nil))))))))))))
/-! ### _law_bent -/
def d__law_bent : Sf := (sq (sUnp (tgTup (tgsCons (tgName 2) (tgsCons (tgName 3) (tgsCons (tgName 4) (tgsCons (tgName 5) (tgsCons (tgName 6) tgsNil)))))) (eVar 1)) (sq (sSet 7 (op2 gIx (.ex (op2 gAdd (.vr 5) (.ex (eTup [(.ex (eTup [(.ex (op2 gSub (.ex (eC (.int 7))) (.vr 2))), (.ex (eC (.int 1)))]))])))) (.ex (eC (.int 0))))) (sq (sSet 8 (eCall [true, false] g__law_take [(.vr 0), (.ex (op2 gAdd (.ex (opA gLen [(.vr 5)])) (.ex (eC (.int 1)))))])) (sq (sSetN 9 (eLst [(.ex (eTup [(.ex (eVar 2)), (.ex (eC (.int 5)))])), (.ex (eTup [(.ex (eC (.int 8))), (.ex (eC (.int 5)))])), (.ex (eTup [(.ex (op2 gIx (.vr 7) (.ex (eC (.int 0))))), (.ex (eC (.int 0)))])), (.ex (eTup [(.ex (op2 gIx (.vr 7) (.ex (eC (.int 0))))), (.ex (eC (.int 100)))])), (.ex (op2 gAdd (.vr 7) (.ex (eTup [(.ex (eC (.int 1)))])))), (.ex (opA gList [(.vr 7)])), (.ex (eC .none)), (.ex (eTup [(.ex (eC (.bool true))), (.ex (eC (.int 1)))])), (.ex (eTup [(.ex (op2 gIx (.vr 7) (.ex (eC (.int 0))))), (.ex (eC .none))])), (.ex (eVar 7))])) (sq (sDrop (eMeth 9 gAppend [(.ex (eTup [(.ex (op2 gIx (.vr 7) (.ex (eC (.int 0))))), (.ex (eC (.bool true)))]))])) (sq (sSet 10 (eCall [true, false] g__law_take [(.vr 0), (.ex (eC (.int 8)))])) (sq (sIf (bD (op2 gEq (.vr 10) (.ex (eC (.int 0))))) (sRet (eTup [(.ex (eVar 2)), (.ex (eVar 3)), (.ex (eC (.bool false))), (.ex (op2 gAdd (.ex (op2 gAdd (.ex (eSlice gCut (.vr 5) pNo (pAt (eVar 8)))) (.ex (eTup [(.ex (op2 gIx (.vr 9) (.ex (eCall [true, false] g__law_take [(.vr 0), (.ex (eC (.int 11)))]))))])))) (.ex (eSlice gCut (.vr 5) (pAt (eVar 8)) pNo)))), (.ex (eVar 6))])) sNx) (sq (sIf (bD (op2 gEq (.vr 10) (.ex (eC (.int 1))))) (sRet (op2 gIx (.ex (eLst [(.ex (eSlice gCut (.vr 1) pNo (pAt (eC (.int 4))))), (.ex (op2 gAdd (.vr 1) (.ex (eTup [(.ex (eC (.int 0)))])))), (.ex (opA gList [(.vr 1)])), (.ex (eTup [(.ex (eVar 2)), (.ex (eVar 3)), (.ex (eVar 4)), (.ex (opA gList [(.vr 5)])), (.ex (eVar 6))]))])) (.ex (eCall [true, false] g__law_take [(.vr 0), (.ex (eC (.int 4)))])))) sNx) (sq (sIf (bD (op2 gEq (.vr 10) (.ex (eC (.int 2))))) (sRet (op2 gAdd (.ex (eTup [(.ex (op2 gIx (.ex (eLst [(.ex (op1 gNeg (.ex (eC (.int 1))))), (.ex (eC (.int 8))), (.ex (eC (.bool true))), (.ex (eC .none)), (.ex (eC (.str "0")))])) (.ex (eCall [true, false] g__law_take [(.vr 0), (.ex (eC (.int 5)))]))))])) (.ex (eSlice gCut (.vr 1) (pAt (eC (.int 1))) pNo)))) sNx) (sq (sIf (bD (op2 gEq (.vr 10) (.ex (eC (.int 3))))) (sRet (op2 gAdd (.ex (eTup [(.ex (eVar 2)), (.ex (op2 gIx (.ex (eLst [(.ex (eC (.int 0))), (.ex (op1 gNeg (.ex (eC (.int 1))))), (.ex (eC (.bool true))), (.ex (eC .none)), (.ex (eC (.str "1")))])) (.ex (eCall [true, false] g__law_take [(.vr 0), (.ex (eC (.int 5)))]))))])) (.ex (eSlice gCut (.vr 1) (pAt (eC (.int 2))) pNo)))) sNx) (sq (sIf (bD (op2 gEq (.vr 10) (.ex (eC (.int 4))))) (sRet (op2 gAdd (.ex (op2 gAdd (.ex (eSlice gCut (.vr 1) pNo (pAt (eC (.int 2))))) (.ex (eTup [(.ex (op2 gIx (.ex (eLst [(.ex (eC (.int 0))), (.ex (eC (.int 1))), (.ex (eC .none)), (.ex (eNot (eVar 4)))])) (.ex (eCall [true, false] g__law_take [(.vr 0), (.ex (eC (.int 4)))]))))])))) (.ex (eSlice gCut (.vr 1) (pAt (eC (.int 3))) pNo)))) sNx) (sq (sIf (bD (op2 gEq (.vr 10) (.ex (eC (.int 5))))) (sRet (op2 gAdd (.ex (eSlice gCut (.vr 1) pNo (pAt (eC (.int 3))))) (.ex (eTup [(.ex (op1 gRev (.vr 5))), (.ex (eVar 6))])))) sNx) (sq (sIf (bD (op2 gEq (.vr 10) (.ex (eC (.int 6))))) (sRet (op2 gAdd (.ex (eSlice gCut (.vr 1) pNo (pAt (eC (.int 4))))) (.ex (eTup [(.ex (op2 gIx (.ex (eLst [(.ex (eC (.int 41))), (.ex (op1 gNeg (.ex (eC (.int 1))))), (.ex (eC (.bool true))), (.ex (eC .none)), (.ex (eC (.str "0"))), (.ex (eC (.int 40))), (.ex (eC (.int 0)))])) (.ex (eCall [true, false] g__law_take [(.vr 0), (.ex (eC (.int 7)))]))))])))) sNx) (sRet (op2 gIx (.ex (eLst [(.ex (eC .none)), (.ex (eTup [])), (.ex (eDict0)), (.ex (eC (.str "sheet"))), (.ex (eC (.int 5))), (.ex (eLst [(.ex (eVar 1))])), (.ex (eTup [(.ex (eVar 1))]))])) (.ex (eCall [true, false] g__law_take [(.vr 0), (.ex (eC (.int 7)))])))))))))))))))))
def g__law_bent : List D → Option (D × List D) := gOf 11 [true, false] d__law_bent
theorem sc__law_bent : FnScope ["_law_pool_here", "_law_sheet_here", "_law_house", "_law_number", "_law_ended", "_law_ties", "_law_age", "_law_tie", "_law_at", "_law_odd", "_law_way"] ["_law_pool_here", "_law_sheet_here"] (defScope (top 18)) := ⟨rfl, rfl, rfl, by decide +kernel, rfl, by decide +kernel, by decide +kernel⟩
theorem ok__law_bent {f : Addr} {fd : FuncData} (F : FnP K "_law_bent" (top 18) f fd) (Z : Zs mg) (G__law_take : Got P w K mg base 1 "_law_take" ["_law_pool_here", "_law_many"] (spD K [true, false] false g__law_take)) : FnOk P w K mg base CX0 2 f fd ["_law_pool_here", "_law_sheet_here"] (spD K [true, false] false g__law_bent) := by
  refine okP F sc__law_bent (spD_len rfl) (fun cdv A outer s H vs Q E hr h => ⟨tS K d__law_bent, ?_, body_of (N := ["_law_pool_here", "_law_sheet_here", "_law_house", "_law_number", "_law_ended", "_law_ties", "_law_age", "_law_tie", "_law_at", "_law_odd", "_law_way"]) h⟩)
  exact (ds_cons (dS_unp (ts := [2, 3, 4, 5, 6]) (de_var 1) (dg_tup rfl (dgs_cons (dg_name 2 sc__law_bent.nd) (dgs_cons (dg_name 3 sc__law_bent.nd) (dgs_cons (dg_name 4 sc__law_bent.nd) (dgs_cons (dg_name 5 sc__law_bent.nd) (dgs_cons (dg_name 6 sc__law_bent.nd) dgs_nil))))) (takes_cons (takes_cons (takes_cons (takes_cons (takes_cons takes_nil)))))))
      (ds_cons (dS_set (i := 7) sc__law_bent.nd (de_ix (do_ex (de_op op_adds ok_adds (do_vr 5) (do_ex (de_tup (da_cons (do_ex (de_tup (da_cons (do_ex (de_op op_sub ok_sub (do_ex de_int) (do_vr 2))) (da_cons (do_ex de_int) da_nil)))) da_nil))))) (do_ex de_int) (fun _ _ => rfl)))
      (ds_cons (dS_set (i := 8) sc__law_bent.nd (de_callG G__law_take hr rfl (da_cons (do_vr 0) (da_cons (do_ex (de_op op_adds ok_adds (do_ex (de_callB call_len1 ok_len rfl Z.z_len (by decide +kernel) (da_cons (do_vr 5) da_nil))) (do_ex de_int))) da_nil))))
      (ds_cons (dS_setN (i := 9) sc__law_bent.nd (de_lst (da_cons (do_ex (de_tup (da_cons (do_ex (de_var 2)) (da_cons (do_ex de_int) da_nil)))) (da_cons (do_ex (de_tup (da_cons (do_ex de_int) (da_cons (do_ex de_int) da_nil)))) (da_cons (do_ex (de_tup (da_cons (do_ex (de_ix (do_vr 7) (do_ex de_int) (fun _ _ => rfl))) (da_cons (do_ex de_int) da_nil)))) (da_cons (do_ex (de_tup (da_cons (do_ex (de_ix (do_vr 7) (do_ex de_int) (fun _ _ => rfl))) (da_cons (do_ex de_int) da_nil)))) (da_cons (do_ex (de_op op_adds ok_adds (do_vr 7) (do_ex (de_tup (da_cons (do_ex de_int) da_nil))))) (da_cons (do_ex (de_new (de_callTyN call_list_of ok_list rfl Z.z_list (by decide +kernel) (da_cons (do_vr 7) da_nil)))) (da_cons (do_ex de_none) (da_cons (do_ex (de_tup (da_cons (do_ex de_bool) (da_cons (do_ex de_int) da_nil)))) (da_cons (do_ex (de_tup (da_cons (do_ex (de_ix (do_vr 7) (do_ex de_int) (fun _ _ => rfl))) (da_cons (do_ex de_none) da_nil)))) (da_cons (do_ex (de_var 7)) da_nil))))))))))))
      (ds_cons (dS_drop (de_append (i := 9) (da_cons (do_ex (de_tup (da_cons (do_ex (de_ix (do_vr 7) (do_ex de_int) (fun _ _ => rfl))) (da_cons (do_ex de_bool) da_nil)))) da_nil)))
      (ds_cons (dS_set (i := 10) sc__law_bent.nd (de_callG G__law_take hr rfl (da_cons (do_vr 0) (da_cons (do_ex de_int) da_nil))))
      (ds_cons (dS_if (dt_cmp (op_eqs hr.units) ok_eq (do_vr 10) (do_ex de_int) (nomark _)) (ds_one (dS_ret (de_tup (da_cons (do_ex (de_var 2)) (da_cons (do_ex (de_var 3)) (da_cons (do_ex de_bool) (da_cons (do_ex (de_op op_adds ok_adds (do_ex (de_op op_adds ok_adds (do_ex (de_slice (do_vr 5) dp_none (dp_some (de_var 8)))) (do_ex (de_tup (da_cons (do_ex (de_ix (do_vr 9) (do_ex (de_callG G__law_take hr rfl (da_cons (do_vr 0) (da_cons (do_ex de_int) da_nil)))) (fun _ _ => rfl))) da_nil))))) (do_ex (de_slice (do_vr 5) (dp_some (de_var 8)) dp_none)))) (da_cons (do_ex (de_var 6)) da_nil)))))))) ds_nil)
      (ds_cons (dS_if (dt_cmp (op_eqs hr.units) ok_eq (do_vr 10) (do_ex de_int) (nomark _)) (ds_one (dS_ret (de_ix (do_ex (de_new (de_lst (da_cons (do_ex (de_slice (do_vr 1) dp_none (dp_some de_int))) (da_cons (do_ex (de_op op_adds ok_adds (do_vr 1) (do_ex (de_tup (da_cons (do_ex de_int) da_nil))))) (da_cons (do_ex (de_new (de_callTyN call_list_of ok_list rfl Z.z_list (by decide +kernel) (da_cons (do_vr 1) da_nil)))) (da_cons (do_ex (de_tup (da_cons (do_ex (de_var 2)) (da_cons (do_ex (de_var 3)) (da_cons (do_ex (de_var 4)) (da_cons (do_ex (de_new (de_callTyN call_list_of ok_list rfl Z.z_list (by decide +kernel) (da_cons (do_vr 5) da_nil)))) (da_cons (do_ex (de_var 6)) da_nil))))))) da_nil))))))) (do_ex (de_callG G__law_take hr rfl (da_cons (do_vr 0) (da_cons (do_ex de_int) da_nil)))) (fun _ _ => rfl)))) ds_nil)
      (ds_cons (dS_if (dt_cmp (op_eqs hr.units) ok_eq (do_vr 10) (do_ex de_int) (nomark _)) (ds_one (dS_ret (de_op op_adds ok_adds (do_ex (de_tup (da_cons (do_ex (de_ix (do_ex (de_new (de_lst (da_cons (do_ex (de_neg (do_ex de_int))) (da_cons (do_ex de_int) (da_cons (do_ex de_bool) (da_cons (do_ex de_none) (da_cons (do_ex de_str) da_nil)))))))) (do_ex (de_callG G__law_take hr rfl (da_cons (do_vr 0) (da_cons (do_ex de_int) da_nil)))) (fun _ _ => rfl))) da_nil))) (do_ex (de_slice (do_vr 1) (dp_some de_int) dp_none))))) ds_nil)
      (ds_cons (dS_if (dt_cmp (op_eqs hr.units) ok_eq (do_vr 10) (do_ex de_int) (nomark _)) (ds_one (dS_ret (de_op op_adds ok_adds (do_ex (de_tup (da_cons (do_ex (de_var 2)) (da_cons (do_ex (de_ix (do_ex (de_new (de_lst (da_cons (do_ex de_int) (da_cons (do_ex (de_neg (do_ex de_int))) (da_cons (do_ex de_bool) (da_cons (do_ex de_none) (da_cons (do_ex de_str) da_nil)))))))) (do_ex (de_callG G__law_take hr rfl (da_cons (do_vr 0) (da_cons (do_ex de_int) da_nil)))) (fun _ _ => rfl))) da_nil)))) (do_ex (de_slice (do_vr 1) (dp_some de_int) dp_none))))) ds_nil)
      (ds_cons (dS_if (dt_cmp (op_eqs hr.units) ok_eq (do_vr 10) (do_ex de_int) (nomark _)) (ds_one (dS_ret (de_op op_adds ok_adds (do_ex (de_op op_adds ok_adds (do_ex (de_slice (do_vr 1) dp_none (dp_some de_int))) (do_ex (de_tup (da_cons (do_ex (de_ix (do_ex (de_new (de_lst (da_cons (do_ex de_int) (da_cons (do_ex de_int) (da_cons (do_ex de_none) (da_cons (do_ex (de_not (de_var 4))) da_nil))))))) (do_ex (de_callG G__law_take hr rfl (da_cons (do_vr 0) (da_cons (do_ex de_int) da_nil)))) (fun _ _ => rfl))) da_nil))))) (do_ex (de_slice (do_vr 1) (dp_some de_int) dp_none))))) ds_nil)
      (ds_cons (dS_if (dt_cmp (op_eqs hr.units) ok_eq (do_vr 10) (do_ex de_int) (nomark _)) (ds_one (dS_ret (de_op op_adds ok_adds (do_ex (de_slice (do_vr 1) dp_none (dp_some de_int))) (do_ex (de_tup (da_cons (do_ex (de_rev (do_vr 5))) (da_cons (do_ex (de_var 6)) da_nil))))))) ds_nil)
      (ds_cons (dS_if (dt_cmp (op_eqs hr.units) ok_eq (do_vr 10) (do_ex de_int) (nomark _)) (ds_one (dS_ret (de_op op_adds ok_adds (do_ex (de_slice (do_vr 1) dp_none (dp_some de_int))) (do_ex (de_tup (da_cons (do_ex (de_ix (do_ex (de_new (de_lst (da_cons (do_ex de_int) (da_cons (do_ex (de_neg (do_ex de_int))) (da_cons (do_ex de_bool) (da_cons (do_ex de_none) (da_cons (do_ex de_str) (da_cons (do_ex de_int) (da_cons (do_ex de_int) da_nil)))))))))) (do_ex (de_callG G__law_take hr rfl (da_cons (do_vr 0) (da_cons (do_ex de_int) da_nil)))) (fun _ _ => rfl))) da_nil)))))) ds_nil)
      (ds_one (dS_ret (de_ix (do_ex (de_new (de_lst (da_cons (do_ex de_none) (da_cons (do_ex (de_tup da_nil)) (da_cons (do_ex (de_new de_dict0)) (da_cons (do_ex de_str) (da_cons (do_ex de_int) (da_cons (do_ex (de_new (de_lst (da_cons (do_ex (de_var 1)) da_nil)))) (da_cons (do_ex (de_tup (da_cons (do_ex (de_var 1)) da_nil))) da_nil)))))))))) (do_ex (de_callG G__law_take hr rfl (da_cons (do_vr 0) (da_cons (do_ex de_int) da_nil)))) (fun _ _ => rfl)))))))))))))))))
/-! ### law -/
def d_law : Sf := (sq (sIf (bD (op2 gNe (.ex (eC (.int 40))) (.ex (eC (.int 40))))) (sRet (eC (.bool false))) sNx) (sq (sFor (tgName 1) (iR1 (.ex (opA gMax2 [(.ex (eC (.int 1))), (.ex (opA gMin2 [(.ex (opA gLen [(.vr 0)])), (.ex (eC (.int 30)))]))]))) (sq (sSetN 2 (eCall [false, false] g__law_pool [(.ex (eVar 0)), (.ex (eVar 1))])) (sq (sSet 3 (eCall [true] g__law_sheet [(.vr 2)])) (sFor (tgName 4) (iL (eLst [(.ex (eVar 3)), (.ex (eCall [true, false] g__law_bent [(.vr 2), (.ex (eVar 3))])), (.ex (eCall [true, false] g__law_bent [(.vr 2), (.ex (eVar 3))])), (.ex (eCall [true, false] g__law_bent [(.vr 2), (.ex (eVar 3))]))])) (sq (sSet 5 (op1 gRepr (.vr 4))) (sq (sSet 6 (eCall [false] g_is_sheet [(.ex (eVar 4))])) (sIf (bOr (bNot (bD (op1 (gIsi "bool") (.vr 6)))) (bOr (bD (op2 gNe (.vr 6) (.ex (eCall [false] g__law_is [(.ex (eVar 4))])))) (bD (op2 gNe (.ex (op1 gRepr (.vr 4))) (.vr 5))))) (sRet (eC (.bool false))) sNx))))))) (sRet (eC (.bool true)))))
def g_law : List D → Option (D × List D) := gOf 7 [false] d_law
theorem sc_law : FnScope ["_law_script", "_law_k", "_law_pool_here", "_law_sheet_here", "_law_thing", "_law_kept", "_law_found"] ["_law_script"] (defScope (top 19)) := ⟨rfl, rfl, rfl, by decide +kernel, rfl, by decide +kernel, by decide +kernel⟩
theorem ok_law {f : Addr} {fd : FuncData} (F : FnP K "law" (top 19) f fd) (Z : Zs mg) (G__law_pool : Got P w K mg base 2 "_law_pool" ["_law_script", "_law_k"] (spD K [false, false] true g__law_pool)) (G__law_sheet : Got P w K mg base 2 "_law_sheet" ["_law_pool_here"] (spD K [true] false g__law_sheet)) (G__law_bent : Got P w K mg base 2 "_law_bent" ["_law_pool_here", "_law_sheet_here"] (spD K [true, false] false g__law_bent)) (G_is_sheet : Got P w K mg base 5 "is_sheet" ["thing"] (spD K [false] false g_is_sheet)) (G__law_is : Got P w K mg base 2 "_law_is" ["_law_thing"] (spD K [false] false g__law_is)) : FnOkG P w K mg base 6 f fd ["_law_script"] (spD K [false] false g_law) := by
  refine okG F sc_law (spD_len rfl) (fun cdv A outer s H vs Q E gd hr h => ⟨tS K d_law, ?_, body_of (N := ["_law_script", "_law_k", "_law_pool_here", "_law_sheet_here", "_law_thing", "_law_kept", "_law_found"]) h⟩)
  exact (ds_cons (dS_if (dt_cmp (op_nes hr.units) ok_ne (do_ex (de_globInt rfl Z.c_MOST_AGE.choose_spec)) (do_ex de_int) (nomark _)) (ds_one (dS_ret de_bool)) ds_nil)
      (ds_cons (dS_for (ts := [1]) PassesOwn.never rfl (di_range1 rfl Z.z_range (do_ex (de_callB (call_max2 rfl) ok_max2 rfl Z.z_max (by decide +kernel) (da_cons (do_ex de_int) (da_cons (do_ex (de_callB (call_min2 rfl) ok_min2 rfl Z.z_min (by decide +kernel) (da_cons (do_ex (de_callB call_len1 ok_len rfl Z.z_len (by decide +kernel) (da_cons (do_vr 0) da_nil))) (da_cons (do_ex de_int) da_nil)))) da_nil))))) (dg_name 1 sc_law.nd) (ds_cons (dS_setN (i := 2) sc_law.nd (de_callGN G__law_pool hr rfl (da_cons (do_ex (de_var 0)) (da_cons (do_ex (de_var 1)) da_nil))))
      (ds_cons (dS_set (i := 3) sc_law.nd (de_callG G__law_sheet hr rfl (da_cons (do_vr 2) da_nil)))
      (ds_one (dS_for (ts := [4]) PassesOwn.never rfl (di_list (de_new (de_lst (da_cons (do_ex (de_var 3)) (da_cons (do_ex (de_callG G__law_bent hr rfl (da_cons (do_vr 2) (da_cons (do_ex (de_var 3)) da_nil)))) (da_cons (do_ex (de_callG G__law_bent hr rfl (da_cons (do_vr 2) (da_cons (do_ex (de_var 3)) da_nil)))) (da_cons (do_ex (de_callG G__law_bent hr rfl (da_cons (do_vr 2) (da_cons (do_ex (de_var 3)) da_nil)))) da_nil))))))) (dg_name 4 sc_law.nd) (ds_cons (dS_set (i := 5) sc_law.nd (de_repr gd hr rfl Z.z_repr (do_vr 4)))
      (ds_cons (dS_set (i := 6) sc_law.nd (de_callG G_is_sheet hr rfl (da_cons (do_ex (de_var 4)) da_nil)))
      (ds_one (dS_if (PW.pt (dw_or (dt_not (dt_val (de_isi (by decide +kernel) rfl Z.z_isinstance (do_vr 6) rfl Z.z_bool (by decide +kernel)))) (dw_or (dt_cmp (op_nes hr.units) ok_ne (do_vr 6) (do_ex (de_callG G__law_is hr rfl (da_cons (do_ex (de_var 4)) da_nil))) (nomark _)) (dw_or1 (dt_cmp (op_nes hr.units) ok_ne (do_ex (de_repr gd hr rfl Z.z_repr (do_vr 4))) (do_vr 5) (nomark _)))))) (ds_one (dS_ret de_bool)) ds_nil)))))))))
      (ds_one (dS_ret de_bool))))
end
end K03

namespace K03
open PySem L2 DL
local macro_rules | `(tactic| walk_at "go") => `(tactic| repeat (with_reducible first
  | refine wo_ex ?_ | refine wl_f ?_ | refine wd_c ?_ | refine wd_op2 ?_ | refine wd_op1 ?_ | refine wd_opA ?_ | refine wv_nil ?_ | refine wv_cons ?_ | refine wk_nil ?_ | refine wk_cons ?_
  | refine wc_t ?_ | refine wc_f ?_ | refine wb_d ?_ | refine wb_and ?_ | refine wb_or ?_ | refine wb_not ?_ | refine wb_tt ?_ | refine wd_and ?_ | refine wd_or ?_ | refine wd_not ?_ | refine wd_if ?_ | refine wd_chain ?_
  | refine wd_tup ?_ | refine wd_lst ?_ | refine wd_call ?_ | refine wd_meth ?_ | refine wd_slice ?_ | refine wp_no ?_ | refine wp_at ?_ | refine wd_dict0 ?_ | refine wd_lc ?_ | refine wi_l ?_ | refine wi_t ?_ | refine wi_enT ?_ | refine wi_enL ?_ | refine wi_zipT ?_
  | refine ws_seq ?_ | refine ws_nx ?_ | refine ws_if ?_ | refine ws_set ?_ | refine ws_setN ?_ | refine ws_drop ?_ | refine ws_ret ?_ | refine ws_retN ?_ | refine ws_unp ?_ | refine ws_setIx ?_ | refine ws_for ?_
  | refine rg_nx ?_ | refine rg_rt ?_ | refine rg_rn ?_ | refine rf_nx ?_ | refine rf_rt ?_ | refine rf_rn ?_
  | refine wx_eqI ?_ | refine wx_neI ?_ | refine wx_eqB ?_ | refine wx_neB ?_ | refine wx_eqS ?_ | refine wx_neS ?_ | refine wx_lt ?_ | refine wx_le ?_ | refine wx_gt ?_ | refine wx_ge ?_
  | refine wd_var (by with_unfolding_all rfl) ?_ | refine wd_varO (by with_unfolding_all rfl) ?_ | refine wo_f (by with_unfolding_all rfl) ?_ | refine wo_o (by with_unfolding_all rfl) ?_ | refine wo_p (by with_unfolding_all rfl) ?_ | refine wl_s (by with_unfolding_all rfl) ?_
  | refine wy_eq (by with_unfolding_all rfl) ?_ | refine we_eq (by with_unfolding_all rfl) ?_ | refine ⟨_, rfl, ?_⟩ | refine Exists.intro _ (And.intro rfl ?_)
  | refine and_put (by with_unfolding_all rfl) ?_ | refine and_len (by first | (with_unfolding_all decide) | (simp; done) | (simp; omega)) ?_
  | refine wx_mul (by omega) ?_ | refine wx_mod (by omega) ?_ | refine wx_div (by omega) (by first | assumption | decide) ?_ | refine wx_pow (by decide) ?_ | refine wx_addT (by simp; omega) ?_ | refine wx_addL (by simp; omega) ?_
  | refine wq_isiT (by with_unfolding_all rfl) ?_ | refine wq_isiF (by with_unfolding_all rfl) ?_ | refine wc_T (by with_unfolding_all rfl) ?_ | refine wc_F (by with_unfolding_all rfl) ?_ | refine wq_len (by with_unfolding_all rfl) ?_ | refine wq_ix (by with_unfolding_all rfl) ?_ | refine wq_add (by with_unfolding_all rfl) ?_ | refine wq_sub (by with_unfolding_all rfl) ?_ | refine wq_neg (by with_unfolding_all rfl) ?_ | refine wq_rev (by with_unfolding_all rfl) ?_ | refine wq_cut (by with_unfolding_all rfl) ?_ | refine wq_int (by with_unfolding_all rfl) ?_ | refine wq_lst (by with_unfolding_all rfl) ?_ | refine wq_tup (by with_unfolding_all rfl) ?_ | refine wq_max (by with_unfolding_all rfl) ?_ | refine wq_min (by with_unfolding_all rfl) ?_ | refine wq_all (by with_unfolding_all rfl) ?_))
def isInt : D → Bool
  | .int _ => true
  | _ => false
theorem e_is_whole {k : Nat} (d : D) (h : lv 12 k d = true) : Tells (g_is_whole [d]) (isInt d) := by
  unfold g_is_whole d_is_whole
  refine wf_of rfl ?_
  cases d with
  | dict => cases k <;> simp [lv] at h
  | _ => walk_at "go"; exact ⟨rfl, rfl⟩
def isIn (m n : Int) : D → Bool
  | .int i => decide (m ≤ i) && decide (i < n)
  | _ => false
theorem e_is_house {k : Nat} (n : Int) (d : D) (h : lv 12 k d = true) : Tells (g_is_house [.int n, d]) (isIn 0 n d) := by
  unfold g_is_house d_is_house
  refine wf_of rfl ?_
  walk_at "go"
  refine (e_is_whole d h).use ?_
  cases d with
  | int i =>
    walk_at "go"
    refine wc_s (fun h => ?_) (fun h => ?_) <;> walk_at "go" <;> exact ⟨by simp_all [isIn]; try omega, rfl⟩
  | _ => walk_at "go"; exact ⟨rfl, rfl⟩
theorem e_is_price {k : Nat} (d : D) (h : lv 12 k d = true) : Tells (g_is_price [d]) (isIn 1 100 d) := by
  unfold g_is_price d_is_price
  refine wf_of rfl ?_
  walk_at "go"
  refine (e_is_whole d h).use ?_
  cases d with
  | int i =>
    walk_at "go"
    refine wc_s (fun h => ?_) (fun h => ?_) <;> walk_at "go" <;> exact ⟨by simp_all [isIn]; try omega, rfl⟩
  | _ => walk_at "go"; exact ⟨rfl, rfl⟩
theorem e_below {k : Nat} (n : Int) (d : D) (h : lv 12 k d = true) : Tells (g__law_below [d, .int n]) (isIn 0 n d) := by
  unfold g__law_below d__law_below
  refine wf_of rfl ?_
  cases d with
  | dict => cases k <;> simp [lv] at h
  | int i =>
    walk_at "go"
    refine wc_s (fun h => ?_) (fun h => ?_) <;> walk_at "go" <;> exact ⟨by simp_all [isIn]; try omega, rfl⟩
  | _ => walk_at "go"; exact ⟨rfl, rfl⟩
def isTie (h : Int) : D → Bool
  | .tuple [a, b] => isIn 0 8 a && (match a with | .int i => !(i == h) | _ => false) && isIn 1 100 b
  | _ => false
theorem lv_tup {n k : Nat} {xs : List D} (h : lv n k (.tuple xs) = true) : ∃ j, k = j + 1 ∧ ∀ x ∈ xs, lv n j x = true := by
  cases k with
  | zero => simp [lv] at h
  | succ j =>
    simp only [lv, Bool.and_eq_true, List.all_eq_true] at h
    exact ⟨j, rfl, h.2⟩
theorem isIn_int {m n : Int} {d : D} (h : isIn m n d = true) : ∃ i, d = .int i ∧ m ≤ i ∧ i < n := by
  cases d <;> simp [isIn] at h
  exact ⟨_, rfl, h⟩
theorem e_is_told_tie {k : Nat} (h : Int) (d : D) (hd : lv 12 k d = true) : Tells (g_is_told_tie [.int h, d]) (isTie h d) := by
  unfold g_is_told_tie d_is_told_tie
  refine wf_of rfl ?_
  cases d with
  | dict => cases k <;> simp [lv] at hd
  | tuple xs =>
    obtain ⟨j, rfl, hx⟩ := lv_tup hd
    walk_at "go"
    refine wc_s (fun q => ?_) (fun q => ?_)
    · walk_at "go"
      refine ⟨?_, rfl⟩
      match xs with
      | [] => rfl
      | [_] => rfl
      | [_, _] => simp at q
      | _ :: _ :: _ :: _ => rfl
    · match xs, q with
      | [a, b], _ =>
        walk_at "go"
        refine (e_is_house 8 a (hx a (by simp))).use ?_
        walk_at "go"
        refine wc_s (fun q1 => ?_) (fun q1 => ?_)
        · obtain ⟨i, rfl, _⟩ := isIn_int q1
          walk_at "go"
          refine wc_s (fun q2 => ?_) (fun q2 => ?_)
          · walk_at "go"
            refine (e_is_price b (hx b (by simp))).use ?_
            walk_at "go"
            exact ⟨by simp [isTie, q1, q2], rfl⟩
          · walk_at "go"
            exact ⟨by simp [isTie, q1, q2], rfl⟩
        · walk_at "go"
          exact ⟨by simp [isTie, q1], rfl⟩
  | _ => walk_at "go"; exact ⟨rfl, rfl⟩

def fst0 : D → Int
  | .tuple (.int i :: _) => i
  | _ => 0
def asc : List D → Bool
  | a :: b :: r => decide (fst0 a < fst0 b) && asc (b :: r)
  | _ => true
theorem bools_map {p : D → Bool} : ∀ xs : List D, boolsOf (xs.map fun x => .bool (p x)) = some (xs.map p)
  | [] => rfl
  | x :: xs => by simp [boolsOf, bools_map xs]
theorem all_map {p : D → Bool} (xs : List D) : gAll [.list (xs.map fun x => .bool (p x))] = some (.bool (xs.all p)) := by
  simp [gAll, bools_map, List.all_map]
theorem isTie_inv {h : Int} {d : D} (q : isTie h d = true) : ∃ i b, d = .tuple [.int i, .int b] ∧ 0 ≤ i ∧ i < 8 ∧ i ≠ h ∧ 1 ≤ b ∧ b < 100 := by
  match d, q with
  | .tuple [a, b], q =>
    simp only [isTie, Bool.and_eq_true] at q
    obtain ⟨i, rfl, h1⟩ := isIn_int q.1.1
    obtain ⟨j, rfl, h2⟩ := isIn_int q.2
    exact ⟨i, j, rfl, h1.1, h1.2, by simpa using q.1.2, h2⟩
theorem pairs_mem : ∀ {as bs : List D} {x : D}, x ∈ pairs as bs → ∃ a b, x = .tuple [a, b] ∧ a ∈ as ∧ b ∈ bs
  | [], _, _, h => by simp [pairs] at h
  | _ :: _, [], _, h => by simp [pairs] at h
  | a :: as, b :: bs, x, h => by
    rcases List.mem_cons.mp (show x ∈ (.tuple [a, b] : D) :: pairs as bs from h) with rfl | h
    · exact ⟨a, b, rfl, by simp, by simp⟩
    · obtain ⟨a', b', e, h1, h2⟩ := pairs_mem h
      exact ⟨a', b', e, List.mem_cons_of_mem _ h1, List.mem_cons_of_mem _ h2⟩
def ltP : D → Bool
  | .tuple [a, b] => decide (fst0 a < fst0 b)
  | _ => false
theorem asc_pairs : ∀ xs : List D, (pairs xs (xs.drop 1)).all ltP = asc xs
  | [] => rfl
  | [a] => rfl
  | a :: b :: r => by
    have := asc_pairs (b :: r)
    simp only [List.drop_succ_cons, List.drop_zero] at this ⊢
    simp [pairs, asc, ltP, this]
theorem cut1 (xs : List D) : cutD xs (some 1) none = xs.drop 1 := by
  unfold cutD
  rw [HT.sIx_none, show HT.sIx xs.length 0 (some 1) = min 1 xs.length from HT.sIx_nat _ _ 1]
  cases xs with
  | nil => rfl
  | cons a r => simp [Nat.min_eq_left]
theorem pairs_len2 : ∀ as bs : List D, (pairs as bs).length ≤ as.length
  | [], _ => by simp [pairs]
  | _ :: _, [] => by simp [pairs]
  | a :: as, b :: bs => by simp [pairs, pairs_len2 as bs]
def okTies (h : Int) (xs : List D) : Bool := xs.all (isTie h) && asc xs
def isTies (h : Int) : D → Bool
  | .tuple xs => okTies h xs
  | _ => false
theorem lv_len {n k : Nat} {xs : List D} (h : lv n k (.tuple xs) = true) : xs.length ≤ n := by
  cases k with
  | zero => simp [lv] at h
  | succ j =>
    simp only [lv, Bool.and_eq_true, decide_eq_true_eq] at h
    exact h.1
theorem e_are_told_ties {k : Nat} (h : Int) (d : D) (hd : lv 12 k d = true) : Tells (g_are_told_ties [.int h, d]) (isTies h d) := by
  unfold g_are_told_ties d_are_told_ties
  refine wf_of rfl ?_
  cases d with
  | dict => cases k <;> simp [lv] at hd
  | tuple xs =>
    have hlen := lv_len hd
    obtain ⟨j, rfl, hx⟩ := lv_tup hd
    walk_at "go"
    refine ⟨by omega, ?_⟩
    walk_at "go"
    refine ⟨_, _, lc_pure (fun x => .bool (isTie h x)) (fun x hm => ?_), ?_⟩
    · walk_at "go"
      refine ⟨rfl, ?_⟩
      walk_at "go"
      refine (e_is_told_tie h x (hx x hm)).use ?_
      walk_at "go"
      refine ⟨rfl, ?_⟩
      walk_at "go"
      rfl
    · walk_at "go"
      refine wq_all (all_map xs) ?_
      walk_at "go"
      refine wc_s (fun q => ?_) (fun q => ?_)
      · walk_at "go"
        have q : xs.all (isTie h) = false := by simpa using q
        exact ⟨by simp [isTies, okTies, q], rfl⟩
      · have q : xs.all (isTie h) = true := by simpa using q
        have q' := List.all_eq_true.mp q
        walk_at "go"
        rw [cut1]
        refine ⟨Nat.lt_of_le_of_lt (pairs_len2 _ _) (by omega), ?_⟩
        walk_at "go"
        refine ⟨_, _, lc_pure (fun x => .bool (ltP x)) (fun x hm => ?_), ?_⟩
        · obtain ⟨a, b, rfl, ha, hb⟩ := pairs_mem hm
          obtain ⟨i, u, rfl, _⟩ := isTie_inv (q' a ha)
          obtain ⟨i', u', rfl, _⟩ := isTie_inv (q' b (List.mem_of_mem_drop hb))
          walk_at "go"
          refine ⟨rfl, ?_⟩
          walk_at "go"
          refine ⟨rfl, ?_⟩
          walk_at "go"
          rfl
        · walk_at "go"
          refine wq_all (all_map _) ?_
          walk_at "go"
          exact ⟨by simp only [isTies, okTies, q, asc_pairs, Bool.true_and], rfl⟩
  | _ => walk_at "go"; exact ⟨rfl, rfl⟩
end K03

namespace K03
open PySem L2 DL
local macro_rules | `(tactic| walk_at "go") => `(tactic| repeat (with_reducible first
  | refine wo_ex ?_ | refine wl_f ?_ | refine wd_c ?_ | refine wd_op2 ?_ | refine wd_op1 ?_ | refine wd_opA ?_ | refine wv_nil ?_ | refine wv_cons ?_ | refine wk_nil ?_ | refine wk_cons ?_
  | refine wc_t ?_ | refine wc_f ?_ | refine wb_d ?_ | refine wb_and ?_ | refine wb_or ?_ | refine wb_not ?_ | refine wb_tt ?_ | refine wd_and ?_ | refine wd_or ?_ | refine wd_not ?_ | refine wd_if ?_ | refine wd_chain ?_
  | refine wd_tup ?_ | refine wd_lst ?_ | refine wd_call ?_ | refine wd_meth ?_ | refine wd_slice ?_ | refine wp_no ?_ | refine wp_at ?_ | refine wd_dict0 ?_ | refine wd_lc ?_ | refine wi_l ?_ | refine wi_t ?_ | refine wi_enT ?_ | refine wi_enL ?_ | refine wi_zipT ?_
  | refine ws_seq ?_ | refine ws_nx ?_ | refine ws_if ?_ | refine ws_set ?_ | refine ws_setN ?_ | refine ws_drop ?_ | refine ws_ret ?_ | refine ws_retN ?_ | refine ws_unp ?_ | refine ws_setIx ?_ | refine ws_for ?_
  | refine rg_nx ?_ | refine rg_rt ?_ | refine rg_rn ?_ | refine rf_nx ?_ | refine rf_rt ?_ | refine rf_rn ?_
  | refine wx_eqI ?_ | refine wx_neI ?_ | refine wx_eqB ?_ | refine wx_neB ?_ | refine wx_eqS ?_ | refine wx_neS ?_ | refine wx_lt ?_ | refine wx_le ?_ | refine wx_gt ?_ | refine wx_ge ?_
  | refine wd_var (by with_unfolding_all rfl) ?_ | refine wd_varO (by with_unfolding_all rfl) ?_ | refine wo_f (by with_unfolding_all rfl) ?_ | refine wo_o (by with_unfolding_all rfl) ?_ | refine wo_p (by with_unfolding_all rfl) ?_ | refine wl_s (by with_unfolding_all rfl) ?_
  | refine wy_eq (by with_unfolding_all rfl) ?_ | refine we_eq (by with_unfolding_all rfl) ?_ | refine ⟨_, rfl, ?_⟩ | refine Exists.intro _ (And.intro rfl ?_)
  | refine and_put (by with_unfolding_all rfl) ?_ | refine and_len (by first | (with_unfolding_all decide) | (simp; done) | (simp; omega)) ?_
  | refine wx_mul (by omega) ?_ | refine wx_mod (by omega) ?_ | refine wx_div (by omega) (by first | assumption | decide) ?_ | refine wx_pow (by decide) ?_ | refine wx_addT (by simp; omega) ?_ | refine wx_addL (by simp; omega) ?_
  | refine wq_isiT (by with_unfolding_all rfl) ?_ | refine wq_isiF (by with_unfolding_all rfl) ?_ | refine wc_T (by with_unfolding_all rfl) ?_ | refine wc_F (by with_unfolding_all rfl) ?_ | refine wq_len (by with_unfolding_all rfl) ?_ | refine wq_ix (by with_unfolding_all rfl) ?_ | refine wq_add (by with_unfolding_all rfl) ?_ | refine wq_sub (by with_unfolding_all rfl) ?_ | refine wq_neg (by with_unfolding_all rfl) ?_ | refine wq_rev (by with_unfolding_all rfl) ?_ | refine wq_cut (by with_unfolding_all rfl) ?_ | refine wq_int (by with_unfolding_all rfl) ?_ | refine wq_lst (by with_unfolding_all rfl) ?_ | refine wq_tup (by with_unfolding_all rfl) ?_ | refine wq_max (by with_unfolding_all rfl) ?_ | refine wq_min (by with_unfolding_all rfl) ?_ | refine wq_all (by with_unfolding_all rfl) ?_))
def isBl : D → Bool
  | .bool _ => true
  | _ => false
def endOk : D → D → Bool
  | .bool c, .tuple ts => !c || ts.isEmpty
  | _, _ => false
def tiesOf : D → D → Bool
  | .int h, t => isTies h t
  | _, _ => false
def isSheet : D → Bool
  | .tuple [a, b, c, t, g] => isIn 0 8 a && (isIn 1 (10 ^ 60) b && (isBl c && (tiesOf a t && (endOk c t && isIn 0 41 g))))
  | _ => false
theorem isBl_inv {d : D} (h : isBl d = true) : ∃ b, d = .bool b := by
  cases d <;> simp [isBl] at h
  exact ⟨_, rfl⟩
theorem isTies_inv {h : Int} {d : D} (q : isTies h d = true) : ∃ ts, d = .tuple ts := by
  cases d <;> simp [isTies] at q
  exact ⟨_, rfl⟩
theorem isi_bl {k : Nat} (d : D) (h : lv 12 k d = true) : gIsi "bool" d = some (.bool (isBl d)) := by
  cases d with
  | dict => cases k <;> simp [lv] at h
  | _ => rfl
theorem lv_int {n k : Nat} {i : Int} (h : lv n k (.int i) = true) : i.natAbs < 10 ^ 60 := by
  cases k <;> simpa [lv] using h
theorem ne_unit {n k : Nat} {ts : List D} (h : lv n k (.tuple ts) = true) (hk : k ≤ 60) : gNe (.tuple ts) (.tuple []) = some (.bool (!ts.isEmpty)) := by
  rw [(lv_ok n k _ h).ne (lv_ok 1 1 (.tuple []) rfl) hk (by decide)]
  cases ts <;> rfl
theorem eq_unit {n k : Nat} {ts : List D} (h : lv n k (.tuple ts) = true) (hk : k ≤ 60) : gEq (.tuple ts) (.tuple []) = some (.bool ts.isEmpty) := by
  rw [(lv_ok n k _ h).eq (lv_ok 1 1 (.tuple []) rfl) hk (by decide)]
  cases ts <;> rfl
theorem not5 {xs : List D} (q : (!((xs.length : Int) == 5)) = true) : isSheet (.tuple xs) = false := by
  match xs with
  | [] => rfl
  | [_] => rfl
  | [_, _] => rfl
  | [_, _, _] => rfl
  | [_, _, _, _] => rfl
  | [_, _, _, _, _] => simp at q
  | _ :: _ :: _ :: _ :: _ :: _ :: _ => rfl
theorem is5 {xs : List D} (q : (!((xs.length : Int) == 5)) = false) : ∃ a b c t g, xs = [a, b, c, t, g] := by
  have q : (xs.length : Int) = 5 := by simpa using q
  match xs, q with
  | [a, b, c, t, g], _ => exact ⟨a, b, c, t, g, rfl⟩
  | [], q => simp at q
  | [_], q => simp at q
  | [_, _], q => simp at q
  | [_, _, _], q => simp at q
  | [_, _, _, _], q => simp at q
  | _ :: _ :: _ :: _ :: _ :: _ :: _, q => simp at q; omega
theorem e_is_sheet {k : Nat} (hk : k ≤ 60) (d : D) (hd : lv 12 k d = true) : Tells (g_is_sheet [d]) (isSheet d) := by
  unfold g_is_sheet d_is_sheet
  refine wf_of rfl ?_
  cases d with
  | dict => cases k <;> simp [lv] at hd
  | tuple xs =>
    obtain ⟨j, rfl, hx⟩ := lv_tup hd
    walk_at "go"
    refine wc_s (fun q => ?_) (fun q => ?_)
    · walk_at "go"
      exact ⟨by rw [not5 q], rfl⟩
    obtain ⟨a, b, c, t, g, rfl⟩ := is5 q
    have ha := hx a (by simp)
    have hb := hx b (by simp)
    have hc := hx c (by simp)
    have ht := hx t (by simp)
    have hg := hx g (by simp)
    walk_at "go"
    refine (e_is_house 8 a ha).use ?_
    walk_at "go"
    refine wc_s (fun q1 => ?_) (fun q1 => ?_)
    · walk_at "go"
      exact ⟨by simp at q1; simp [isSheet, q1], rfl⟩
    have q1 : isIn 0 8 a = true := by simpa using q1
    obtain ⟨h, rfl, _⟩ := isIn_int q1
    walk_at "go"
    refine (e_is_whole b hb).use ?_
    walk_at "go"
    refine wc_s (fun q2 => ?_) (fun q2 => ?_)
    · walk_at "go"
      refine ⟨?_, rfl⟩
      cases b <;> simp_all [isSheet, isInt, isIn]
    have q2 : isInt b = true := by simpa using q2
    cases b with
    | int n =>
      have hn := lv_int hb
      walk_at "go"
      refine wc_s (fun q3 => ?_) (fun q3 => ?_)
      · walk_at "go"
        have q3 : n < 1 := by simpa using q3
        have e3 : isIn 1 (10 ^ 60) (.int n) = false := by simp [isIn]; omega
        exact ⟨by simp only [isSheet, e3, Bool.false_and, Bool.and_false], rfl⟩
      have q3 : ¬ n < 1 := by simpa using q3
      have e3 : isIn 1 (10 ^ 60) (.int n) = true := by simp [isIn]; omega
      walk_at "go"
      refine wx_eq (isi_bl c hc) ?_
      walk_at "go"
      refine wc_s (fun q4 => ?_) (fun q4 => ?_)
      · walk_at "go"
        have q4 : isBl c = false := by simpa using q4
        exact ⟨by simp [isSheet, q4], rfl⟩
      have q4 : isBl c = true := by simpa using q4
      obtain ⟨cc, rfl⟩ := isBl_inv q4
      walk_at "go"
      refine (e_are_told_ties h t ht).use ?_
      walk_at "go"
      refine wc_s (fun q5 => ?_) (fun q5 => ?_)
      · walk_at "go"
        have q5 : isTies h t = false := by simpa using q5
        exact ⟨by simp [isSheet, tiesOf, q5], rfl⟩
      have q5 : isTies h t = true := by simpa using q5
      obtain ⟨ts, rfl⟩ := isTies_inv q5
      have e6 : (!cc || ts.isEmpty) = true → isSheet (.tuple [.int h, .int n, .bool cc, .tuple ts, g]) = isIn 0 41 g := fun h1 => by
        simp only [isSheet, q1, e3, q4, tiesOf, q5, endOk, h1, Bool.true_and]
      cases cc with
      | false =>
        walk_at "go"
        refine (e_is_whole g hg).use ?_
        walk_at "go"
        have e6 := e6 rfl
        cases g with
        | int i =>
          walk_at "go"
          refine wc_s (fun q6 => ?_) (fun q6 => ?_)
          · walk_at "go"
            exact ⟨by rw [e6]; simp_all [isIn]; try omega, rfl⟩
          · walk_at "go"
            exact ⟨by rw [e6]; simp_all [isIn]; try omega, rfl⟩
        | _ => walk_at "go"; exact ⟨by rw [e6]; rfl, rfl⟩
      | true =>
        walk_at "go"
        refine wx_eq (ne_unit ht (by omega)) ?_
        walk_at "go"
        refine wc_s (fun q6 => ?_) (fun q6 => ?_)
        · walk_at "go"
          have q6 : ts.isEmpty = false := by simpa using q6
          exact ⟨by simp [isSheet, endOk, q6], rfl⟩
        · have q6 : ts.isEmpty = true := by simpa using q6
          walk_at "go"
          refine (e_is_whole g hg).use ?_
          walk_at "go"
          have e6 := e6 q6
          cases g with
          | int i =>
            walk_at "go"
            refine wc_s (fun q6 => ?_) (fun q6 => ?_)
            · walk_at "go"
              exact ⟨by rw [e6]; simp_all [isIn]; try omega, rfl⟩
            · walk_at "go"
              exact ⟨by rw [e6]; simp_all [isIn]; try omega, rfl⟩
          | _ => walk_at "go"; exact ⟨by rw [e6]; rfl, rfl⟩
    | _ => simp [isInt] at q2
  | _ => walk_at "go"; exact ⟨rfl, rfl⟩
end K03

namespace K03
open PySem L2 DL
local macro_rules | `(tactic| walk_at "go") => `(tactic| repeat (with_reducible first
  | refine wo_ex ?_ | refine wl_f ?_ | refine wd_c ?_ | refine wd_op2 ?_ | refine wd_op1 ?_ | refine wd_opA ?_ | refine wv_nil ?_ | refine wv_cons ?_ | refine wk_nil ?_ | refine wk_cons ?_
  | refine wc_t ?_ | refine wc_f ?_ | refine wb_d ?_ | refine wb_and ?_ | refine wb_or ?_ | refine wb_not ?_ | refine wb_tt ?_ | refine wd_and ?_ | refine wd_or ?_ | refine wd_not ?_ | refine wd_if ?_ | refine wd_chain ?_
  | refine wd_tup ?_ | refine wd_lst ?_ | refine wd_call ?_ | refine wd_meth ?_ | refine wd_slice ?_ | refine wp_no ?_ | refine wp_at ?_ | refine wd_dict0 ?_ | refine wd_lc ?_ | refine wi_l ?_ | refine wi_t ?_ | refine wi_enT ?_ | refine wi_enL ?_ | refine wi_zipT ?_
  | refine ws_seq ?_ | refine ws_nx ?_ | refine ws_if ?_ | refine ws_set ?_ | refine ws_setN ?_ | refine ws_drop ?_ | refine ws_ret ?_ | refine ws_retN ?_ | refine ws_unp ?_ | refine ws_setIx ?_ | refine ws_for ?_
  | refine rg_nx ?_ | refine rg_rt ?_ | refine rg_rn ?_ | refine rf_nx ?_ | refine rf_rt ?_ | refine rf_rn ?_
  | refine wx_eqI ?_ | refine wx_neI ?_ | refine wx_eqB ?_ | refine wx_neB ?_ | refine wx_eqS ?_ | refine wx_neS ?_ | refine wx_lt ?_ | refine wx_le ?_ | refine wx_gt ?_ | refine wx_ge ?_
  | refine wd_var (by with_unfolding_all rfl) ?_ | refine wd_varO (by with_unfolding_all rfl) ?_ | refine wo_f (by with_unfolding_all rfl) ?_ | refine wo_o (by with_unfolding_all rfl) ?_ | refine wo_p (by with_unfolding_all rfl) ?_ | refine wl_s (by with_unfolding_all rfl) ?_
  | refine wy_eq (by with_unfolding_all rfl) ?_ | refine we_eq (by with_unfolding_all rfl) ?_ | refine ⟨_, rfl, ?_⟩ | refine Exists.intro _ (And.intro rfl ?_)
  | refine and_put (by with_unfolding_all rfl) ?_ | refine and_len (by first | (with_unfolding_all decide) | (simp; done) | (simp; omega)) ?_
  | refine wx_mul (by omega) ?_ | refine wx_mod (by omega) ?_ | refine wx_div (by omega) (by first | assumption | decide) ?_ | refine wx_pow (by decide) ?_ | refine wx_addT (by simp; omega) ?_ | refine wx_addL (by simp; omega) ?_
  | refine wq_isiT (by with_unfolding_all rfl) ?_ | refine wq_isiF (by with_unfolding_all rfl) ?_ | refine wc_T (by with_unfolding_all rfl) ?_ | refine wc_F (by with_unfolding_all rfl) ?_ | refine wq_len (by with_unfolding_all rfl) ?_ | refine wq_ix (by with_unfolding_all rfl) ?_ | refine wq_add (by with_unfolding_all rfl) ?_ | refine wq_sub (by with_unfolding_all rfl) ?_ | refine wq_neg (by with_unfolding_all rfl) ?_ | refine wq_rev (by with_unfolding_all rfl) ?_ | refine wq_cut (by with_unfolding_all rfl) ?_ | refine wq_int (by with_unfolding_all rfl) ?_ | refine wq_lst (by with_unfolding_all rfl) ?_ | refine wq_tup (by with_unfolding_all rfl) ?_ | refine wq_max (by with_unfolding_all rfl) ?_ | refine wq_min (by with_unfolding_all rfl) ?_ | refine wq_all (by with_unfolding_all rfl) ?_))
def okFrom (h : Int) : Option Int → List D → Bool
  | _, [] => true
  | p, x :: r => isTie h x && (match p with | none => true | some q => decide (q < fst0 x)) && okFrom h (some (fst0 x)) r
theorem okFrom_some (h : Int) : ∀ (r : List D) (a : D), okFrom h (some (fst0 a)) r = (r.all (isTie h) && asc (a :: r))
  | [], a => rfl
  | x :: r, a => by
    simp only [okFrom, okFrom_some h r x, List.all_cons, asc]
    cases isTie h x <;> cases decide (fst0 a < fst0 x) <;> cases r.all (isTie h) <;> rfl
theorem okFrom_none (h : Int) : ∀ xs : List D, okFrom h none xs = okTies h xs
  | [] => rfl
  | x :: r => by
    simp only [okFrom, okFrom_some h r x, okTies, List.all_cons]
    cases isTie h x <;> rfl
def tgK : Tg := (tgTup (tgsCons (tgName 6) (tgsCons (tgName 7) tgsNil)))
def bodyK : Sf := (sq (sIf (bOr (bNot (bD (op1 (gIsi "tuple") (.vr 7)))) (bOr (bD (op2 gNe (.ex (opA gLen [(.vr 7)])) (.ex (eC (.int 2))))) (bOr (bNot (bD (eCall [false, false] g__law_below [(.ex (op2 gIx (.vr 7) (.ex (eC (.int 0))))), (.ex (eC (.int 8)))]))) (bD (op2 gEq (.ex (op2 gIx (.vr 7) (.ex (eC (.int 0))))) (.vr 1)))))) (sRet (eC (.bool false))) sNx) (sIf (bOr (bNot (bD (eCall [false, false] g__law_below [(.ex (op2 gIx (.vr 7) (.ex (eC (.int 1))))), (.ex (eC (.int 100)))]))) (bOr (bD (op2 gEq (.ex (op2 gIx (.vr 7) (.ex (eC (.int 1))))) (.ex (eC (.int 0))))) (bAnd (bD (op2 gGt (.vr 6) (.ex (eC (.int 0))))) (bD (op2 gLe (.ex (op2 gIx (.vr 7) (.ex (eC (.int 0))))) (.ex (op2 gIx (.ex (op2 gIx (.vr 4) (.ex (op2 gSub (.vr 6) (.ex (eC (.int 1))))))) (.ex (eC (.int 0)))))))))) (sRet (eC (.bool false))) sNx))
/-- the round at the tie x -/
def prevOf (pre : List D) : Option Int := pre.getLast?.map fst0
def Free (s : Sv) : Prop := s = .un ∨ ∃ d, s = .fz d
theorem free_put {s : Sv} (h : Free s) : mayPut (some s) = true := by
  rcases h with rfl | ⟨d, rfl⟩ <;> rfl
def outK (b : Bool) (e : Sv → Sv → En) (r : Rs) : Prop := match b with
  | true => ∃ s t, Free s ∧ Free t ∧ r = .nx (e s t)
  | false => ∃ s t, r = .rt (.bool false) (e s t)
theorem two_inv {xs : List D} (q : (!((xs.length : Int) == 2)) = false) : ∃ a b, xs = [a, b] := by
  have q : (xs.length : Int) = 2 := by simpa using q
  match xs, q with
  | [a, b], _ => exact ⟨a, b, rfl⟩
  | [], q => simp at q
  | [_], q => simp at q
  | _ :: _ :: _ :: _, q => simp at q; omega
theorem two_not {h : Int} {xs : List D} (q : (!((xs.length : Int) == 2)) = true) : isTie h (.tuple xs) = false := by
  match xs with
  | [] => rfl
  | [_] => rfl
  | [_, _] => simp at q
  | _ :: _ :: _ :: _ => rfl
theorem bodyK_run {k : Nat} {h n : Int} {b c g x T : D} {s6 s7 : Sv} {ts pre rest : List D} (hT : lv 12 k x = true) (hts : ts = pre ++ x :: rest) (hn : n = pre.length) (hp : ∀ y ∈ pre, isTie h y = true) (f6 : Free s6) (f7 : Free s7) :
    We (tgK (.tuple [.int n, x]) [.fz T, .fz (.int h), .fz b, .fz c, .fz (.tuple ts), .fz g, s6, s7]) fun e => Ws bodyK e fun r =>
      outK (isTie h x && (match prevOf pre with | none => true | some q => decide (q < fst0 x))) (fun s t => [.fz T, .fz (.int h), .fz b, .fz c, .fz (.tuple ts), .fz g, s, t]) r := by
  refine we_eq (ds := [.fz T, .fz (.int h), .fz b, .fz c, .fz (.tuple ts), .fz g, .fz (.int n), .fz x]) (by simp [tgK, tgTup, tgsCons, tgsNil, tgName, put, free_put f6, free_put f7]) ?_
  unfold bodyK
  cases x with
  | dict => cases k <;> simp [lv] at hT
  | tuple xs =>
    obtain ⟨j, rfl, hx⟩ := lv_tup hT
    walk_at "go"
    refine wc_s (fun q => ?_) (fun q => ?_)
    · walk_at "go"
      rw [two_not q]
      exact ⟨_, _, rfl⟩
    obtain ⟨a, u, rfl⟩ := two_inv q
    walk_at "go"
    refine (e_below 8 a (hx a (by simp))).use ?_
    walk_at "go"
    refine wc_s (fun q1 => ?_) (fun q1 => ?_)
    · have q1 : isIn 0 8 a = false := by simpa using q1
      walk_at "go"
      rw [show isTie h (.tuple [a, u]) = false by simp [isTie, q1]]
      exact ⟨_, _, rfl⟩
    have q1 : isIn 0 8 a = true := by simpa using q1
    obtain ⟨i, rfl, hi⟩ := isIn_int q1
    walk_at "go"
    refine wc_s (fun q2 => ?_) (fun q2 => ?_)
    · walk_at "go"
      rw [show isTie h (.tuple [.int i, u]) = false by simp [isTie, q2]]
      exact ⟨_, _, rfl⟩
    walk_at "go"
    refine (e_below 100 u (hx u (by simp))).use ?_
    walk_at "go"
    refine wc_s (fun q3 => ?_) (fun q3 => ?_)
    · have q3 : isIn 0 100 u = false := by simpa using q3
      have q3' : isIn 1 100 u = false := by
        cases u <;> simp_all [isIn]
        omega
      walk_at "go"
      rw [show isTie h (.tuple [.int i, u]) = false by simp [isTie, q3']]
      exact ⟨_, _, rfl⟩
    have q3 : isIn 0 100 u = true := by simpa using q3
    obtain ⟨v, rfl, hv⟩ := isIn_int q3
    walk_at "go"
    refine wc_s (fun q4 => ?_) (fun q4 => ?_)
    · have q4 : v = 0 := by simpa using q4
      subst q4
      walk_at "go"
      rw [show isTie h (.tuple [.int i, .int 0]) = false by simp [isTie, isIn]]
      exact ⟨_, _, rfl⟩
    have q4 : v ≠ 0 := by simpa using q4
    have e4 : isTie h (.tuple [.int i, .int v]) = true := by
      have q2 : i ≠ h := by simpa using q2
      simp [isTie, isIn, q2]
      omega
    rw [e4]
    rcases List.eq_nil_or_concat pre with rfl | ⟨pre', y, rfl⟩
    · subst hn
      walk_at "go"
      exact ⟨_, _, .inr ⟨_, rfl⟩, .inr ⟨_, rfl⟩, rfl⟩
    · obtain ⟨yi, yb, rfl, _⟩ := isTie_inv (hp y (by simp))
      have hn' : n = (pre'.length : Int) + 1 := by simpa using hn
      subst hn'
      have hpv : prevOf (pre'.concat (.tuple [.int yi, .int yb])) = some yi := by simp [prevOf, fst0]
      rw [hpv]
      walk_at "go"
      refine wc_T (by simp) ?_
      walk_at "go"
      refine wx_ixT (d := .tuple [.int yi, .int yb]) (by omega) ?_ ?_
      · rw [hts, show ((pre'.length : Int) + 1 - 1).toNat = pre'.length by omega]
        simp
      walk_at "go"
      refine wc_s (fun q5 => ?_) (fun q5 => ?_)
      · have q5 : i ≤ yi := by simpa using q5
        walk_at "go"
        have e5 : (true && decide (yi < fst0 (.tuple [.int i, .int v]))) = false := decide_eq_false (show ¬ yi < i by omega)
        show outK (true && decide (yi < fst0 (.tuple [.int i, .int v]))) _ _
        rw [e5]
        exact ⟨_, _, rfl⟩
      · have q5 : ¬ i ≤ yi := by simpa using q5
        walk_at "go"
        have e5 : (true && decide (yi < fst0 (.tuple [.int i, .int v]))) = true := decide_eq_true (show yi < i by omega)
        show outK (true && decide (yi < fst0 (.tuple [.int i, .int v]))) _ _
        rw [e5]
        exact ⟨_, _, .inr ⟨_, rfl⟩, .inr ⟨_, rfl⟩, rfl⟩
  | _ => walk_at "go"; exact ⟨_, _, rfl⟩
theorem loopK_run {k : Nat} {h : Int} {b c g T : D} {ts : List D} (hx : ∀ x ∈ ts, lv 12 k x = true) : ∀ (rest pre : List D) (s6 s7 : Sv), ts = pre ++ rest → (∀ y ∈ pre, isTie h y = true) → Free s6 → Free s7 →
    ∃ r, forD tgK bodyK (numbered pre.length rest) [.fz T, .fz (.int h), .fz b, .fz c, .fz (.tuple ts), .fz g, s6, s7] = some r ∧ outK (okFrom h (prevOf pre) rest) (fun s t => [.fz T, .fz (.int h), .fz b, .fz c, .fz (.tuple ts), .fz g, s, t]) r
  | [], pre, s6, s7, _, _, f6, f7 => ⟨_, rfl, _, _, f6, f7, rfl⟩
  | x :: rest, pre, s6, s7, ht, hp, f6, f7 => by
    obtain ⟨e1, h1, r, h2, o⟩ := bodyK_run (h := h) (b := b) (c := c) (g := g) (T := T) (n := pre.length) (hx x (by rw [ht]; simp)) ht rfl hp f6 f7
    have ho : okFrom h (prevOf pre) (x :: rest) = ((isTie h x && (match prevOf pre with | none => true | some q => decide (q < fst0 x))) && okFrom h (some (fst0 x)) rest) := rfl
    generalize hb : (isTie h x && (match prevOf pre with | none => true | some q => decide (q < fst0 x))) = bb at ho o
    rw [ho]
    cases bb with
    | true =>
      obtain ⟨s, t, fs, ft, rfl⟩ := o
      have hq : isTie h x = true := by
        cases q : isTie h x
        · rw [q] at hb; simp at hb
        · rfl
      obtain ⟨r2, h3, o2⟩ := loopK_run hx rest (pre ++ [x]) s t (by rw [ht]; simp) (fun y hy => by
        rcases List.mem_append.mp hy with hy | hy
        · exact hp y hy
        · simp at hy; rw [hy]; exact hq) fs ft
      rw [show (pre ++ [x]).length = pre.length + 1 by simp] at h3
      rw [show prevOf (pre ++ [x]) = some (fst0 x) by simp [prevOf]] at o2
      refine ⟨r2, ?_, by simpa using o2⟩
      show ((tgK (.tuple [.int (pre.length : Nat), x]) _).bind _) = _
      rw [h1]
      show ((bodyK e1).bind _) = _
      rw [h2]
      exact h3
    | false =>
      obtain ⟨s, t, rfl⟩ := o
      refine ⟨_, ?_, s, t, rfl⟩
      show ((tgK (.tuple [.int (pre.length : Nat), x]) _).bind _) = _
      rw [h1]
      show ((bodyK e1).bind _) = _
      rw [h2]
      rfl
theorem tup_not {k : Nat} (d : D) (h : lv 12 k d = true) : (gIsi "tuple" d = some (.bool true) ∧ ∃ ts, d = .tuple ts) ∨ (gIsi "tuple" d = some (.bool false) ∧ (∀ h, isTies h d = false)) := by
  cases d with
  | dict => cases k <;> simp [lv] at h
  | tuple ts => exact .inl ⟨rfl, ts, rfl⟩
  | _ => exact .inr ⟨rfl, fun _ => rfl⟩
theorem e_law_is {k : Nat} (hk : k ≤ 60) (d : D) (hd : lv 12 k d = true) : Tells (g__law_is [d]) (isSheet d) := by
  unfold g__law_is d__law_is
  refine wf_of rfl ?_
  cases d with
  | dict => cases k <;> simp [lv] at hd
  | tuple xs =>
    obtain ⟨j, rfl, hx⟩ := lv_tup hd
    walk_at "go"
    refine wc_s (fun q => ?_) (fun q => ?_)
    · walk_at "go"
      exact ⟨by rw [not5 q], rfl⟩
    obtain ⟨a, b, c, t, g, rfl⟩ := is5 q
    have ha := hx a (by simp)
    have hb := hx b (by simp)
    have hc := hx c (by simp)
    have ht := hx t (by simp)
    have hg := hx g (by simp)
    walk_at "go"
    refine (e_below 8 a ha).use ?_
    walk_at "go"
    refine wc_s (fun q1 => ?_) (fun q1 => ?_)
    · walk_at "go"
      exact ⟨by simp at q1; simp [isSheet, q1], rfl⟩
    have q1 : isIn 0 8 a = true := by simpa using q1
    obtain ⟨h, rfl, _⟩ := isIn_int q1
    walk_at "go"
    refine (e_below _ b hb).use ?_
    walk_at "go"
    refine wc_s (fun q2 => ?_) (fun q2 => ?_)
    · walk_at "go"
      refine ⟨?_, rfl⟩
      have q2 : isIn 0 (10 ^ 60) b = false := by simpa using q2
      have e3 : isIn 1 (10 ^ 60) b = false := by
        cases b <;> simp_all [isIn]
        omega
      simp only [isSheet, e3, Bool.false_and, Bool.and_false]
    have q2 : isIn 0 (10 ^ 60) b = true := by simpa using q2
    obtain ⟨n, rfl, hn⟩ := isIn_int q2
    walk_at "go"
    refine wc_s (fun q3 => ?_) (fun q3 => ?_)
    · walk_at "go"
      have q3 : n = 0 := by simpa using q3
      have e3 : isIn 1 (10 ^ 60) (.int n) = false := by simp [isIn]; omega
      exact ⟨by simp only [isSheet, e3, Bool.false_and, Bool.and_false], rfl⟩
    have q3 : n ≠ 0 := by simpa using q3
    have e3 : isIn 1 (10 ^ 60) (.int n) = true := by simp [isIn]; omega
    walk_at "go"
    refine wx_eq (isi_bl c hc) ?_
    walk_at "go"
    refine wc_s (fun q4 => ?_) (fun q4 => ?_)
    · walk_at "go"
      have q4 : isBl c = false := by simpa using q4
      exact ⟨by simp [isSheet, q4], rfl⟩
    have q4 : isBl c = true := by simpa using q4
    obtain ⟨cc, rfl⟩ := isBl_inv q4
    walk_at "go"
    rcases tup_not t ht with ⟨e5, ts, rfl⟩ | ⟨e5, q5⟩
    rotate_left
    · refine wx_eq e5 ?_
      walk_at "go"
      exact ⟨by simp [isSheet, tiesOf, q5], rfl⟩
    walk_at "go"
    refine (e_below 41 g hg).use ?_
    walk_at "go"
    refine wc_s (fun q6 => ?_) (fun q6 => ?_)
    · walk_at "go"
      have q6 : isIn 0 41 g = false := by simpa using q6
      exact ⟨by simp [isSheet, q6], rfl⟩
    have q6 : isIn 0 41 g = true := by simpa using q6
    walk_at "go"
    obtain ⟨j, rfl, hxt⟩ := lv_tup ht
    obtain ⟨r, h1, o⟩ := loopK_run (h := h) (b := .int n) (c := .bool cc) (g := g) (T := .tuple [.int h, .int n, .bool cc, .tuple ts, g]) hxt ts [] .un .un rfl (by simp) (.inl rfl) (.inl rfl)
    refine ⟨r, h1, ?_⟩
    rw [show prevOf [] = none from rfl, okFrom_none] at o
    cases q7 : okTies h ts with
    | false =>
      rw [q7] at o
      obtain ⟨s, t, rfl⟩ := o
      walk_at "go"
      exact ⟨by simp [isSheet, tiesOf, isTies, q7], rfl⟩
    | true =>
      rw [q7] at o
      obtain ⟨s, t, _, _, rfl⟩ := o
      have e6 : isSheet (.tuple [.int h, .int n, .bool cc, .tuple ts, g]) = (!cc || ts.isEmpty) := by
        simp only [isSheet, q1, e3, q4, tiesOf, isTies, q7, endOk, q6, Bool.true_and, Bool.and_true]
      walk_at "go"
      cases cc with
      | false =>
        walk_at "go"
        exact ⟨by rw [e6]; rfl, rfl⟩
      | true =>
        walk_at "go"
        refine wx_eq (eq_unit ht (by omega)) ?_
        walk_at "go"
        exact ⟨by rw [e6]; rfl, rfl⟩
  | _ => walk_at "go"; exact ⟨rfl, rfl⟩
end K03

namespace K03
open PySem L2 DL
local macro_rules | `(tactic| walk_at "go") => `(tactic| repeat (with_reducible first
  | refine wo_ex ?_ | refine wl_f ?_ | refine wd_c ?_ | refine wd_op2 ?_ | refine wd_op1 ?_ | refine wd_opA ?_ | refine wv_nil ?_ | refine wv_cons ?_ | refine wk_nil ?_ | refine wk_cons ?_
  | refine wc_t ?_ | refine wc_f ?_ | refine wb_d ?_ | refine wb_and ?_ | refine wb_or ?_ | refine wb_not ?_ | refine wb_tt ?_ | refine wd_and ?_ | refine wd_or ?_ | refine wd_not ?_ | refine wd_if ?_ | refine wd_chain ?_
  | refine wd_tup ?_ | refine wd_lst ?_ | refine wd_call ?_ | refine wd_meth ?_ | refine wd_slice ?_ | refine wp_no ?_ | refine wp_at ?_ | refine wd_dict0 ?_ | refine wd_lc ?_ | refine wi_l ?_ | refine wi_t ?_ | refine wi_enT ?_ | refine wi_enL ?_ | refine wi_zipT ?_ | refine wi_r1 ?_
  | refine ws_seq ?_ | refine ws_nx ?_ | refine ws_if ?_ | refine ws_set ?_ | refine ws_setN ?_ | refine ws_drop ?_ | refine ws_ret ?_ | refine ws_retN ?_ | refine ws_unp ?_ | refine ws_setIx ?_ | refine ws_for ?_
  | refine rg_nx ?_ | refine rg_rt ?_ | refine rg_rn ?_ | refine rf_nx ?_ | refine rf_rt ?_ | refine rf_rn ?_
  | refine wx_eqI ?_ | refine wx_neI ?_ | refine wx_eqB ?_ | refine wx_neB ?_ | refine wx_eqS ?_ | refine wx_neS ?_ | refine wx_lt ?_ | refine wx_le ?_ | refine wx_gt ?_ | refine wx_ge ?_
  | refine wd_var (by with_unfolding_all rfl) ?_ | refine wd_varO (by with_unfolding_all rfl) ?_ | refine wo_f (by with_unfolding_all rfl) ?_ | refine wo_o (by with_unfolding_all rfl) ?_ | refine wo_p (by with_unfolding_all rfl) ?_ | refine wl_s (by with_unfolding_all rfl) ?_
  | refine wy_eq (by with_unfolding_all rfl) ?_ | refine we_eq (by with_unfolding_all rfl) ?_ | refine ⟨_, rfl, ?_⟩ | refine Exists.intro _ (And.intro rfl ?_)
  | refine and_put (by with_unfolding_all rfl) ?_ | refine and_len (by first | (with_unfolding_all decide) | (simp; done) | (simp; omega)) ?_
  | refine wx_toT (by omega) ?_ | refine wx_fromT (by omega) ?_ | refine wx_toL (by omega) ?_ | refine wx_fromL (by omega) ?_
  | refine wx_mul (by omega) ?_ | refine wx_mod (by omega) ?_ | refine wx_div (by omega) (by first | assumption | decide) ?_ | refine wx_pow (by decide) ?_ | refine wx_addT (by simp; omega) ?_ | refine wx_addL (by simp; omega) ?_
  | refine wq_isiT (by with_unfolding_all rfl) ?_ | refine wq_isiF (by with_unfolding_all rfl) ?_ | refine wc_T (by with_unfolding_all rfl) ?_ | refine wc_F (by with_unfolding_all rfl) ?_ | refine wq_len (by with_unfolding_all rfl) ?_ | refine wq_ix (by with_unfolding_all rfl) ?_ | refine wq_add (by with_unfolding_all rfl) ?_ | refine wq_sub (by with_unfolding_all rfl) ?_ | refine wq_neg (by with_unfolding_all rfl) ?_ | refine wq_rev (by with_unfolding_all rfl) ?_ | refine wq_cut (by with_unfolding_all rfl) ?_ | refine wq_int (by with_unfolding_all rfl) ?_ | refine wq_lst (by with_unfolding_all rfl) ?_ | refine wq_tup (by with_unfolding_all rfl) ?_ | refine wq_max (by with_unfolding_all rfl) ?_ | refine wq_min (by with_unfolding_all rfl) ?_ | refine wq_all (by with_unfolding_all rfl) ?_))
def TieD (x : D) : Prop := ∃ a b : Int, x = .tuple [.int a, .int b] ∧ 0 ≤ a ∧ a < 8 ∧ 1 ≤ b ∧ b < 100
structure SheetD (h n : Int) (ts : List D) (a : Int) : Prop where
  h0 : 0 ≤ h
  h8 : h < 8
  n1 : 1 ≤ n
  nb : n ≤ 1000000000000000000000000000000
  tl : ts.length ≤ 8
  tt : ∀ x ∈ ts, TieD x
  a0 : 0 ≤ a
  a41 : a < 41
theorem sheet_spec {P : D} (hP : IsPool P) : Wf (g__law_sheet [P]) fun d os => ∃ (h n : Int) (e : Bool) (ts : List D) (a : Int) (P' : D), d = .tuple [.int h, .int n, .bool e, .tuple ts, .int a] ∧ os = [P'] ∧ IsPool P' ∧ SheetD h n ts a := by
  unfold g__law_sheet d__law_sheet
  refine wf_of rfl ?_
  walk_at "go"
  refine take_use hP (by decide) (by decide) fun h P1 g1 g2 hP1 => ?_
  walk_at "go"
  refine take_use hP1 (by decide) (by decide) fun x2 P2 g3 g4 hP2 => ?_
  walk_at "go"
  refine take_use hP2 (by decide +kernel) (by decide +kernel) fun x3 P3 g5 g6 hP3 => ?_
  have g6 : x3 < 1000000000000000000000000000000 := g6
  walk_at "go"
  refine take_use hP3 (by decide) (by decide) fun x4 P4 g7 g8 hP4 => ?_
  walk_at "go"
  refine wx_pick (P := fun d => ∃ y : Int, d = .int y ∧ 0 ≤ y ∧ y < 1000000000000000000000000000000) (all_cons ⟨_, rfl, g3, by omega⟩ (all_cons ⟨_, rfl, g5, g6⟩ all_nil)) g7 g8 ?_
  rintro _ ⟨y, rfl, y0, y1⟩
  walk_at "go"
  refine take_use hP4 (by decide) (by decide) fun x5 P5 g9 g10 hP5 => ?_
  walk_at "go"
  refine ⟨by decide, ?_⟩
  refine ⟨by rw [rng_len]; decide, ?_⟩
  walk_at "go"
  generalize (x5 == 0) = en
  obtain ⟨zs, e', r, ⟨P6, hP6, rfl⟩, zl, za⟩ := lc_inv (vs := [4]) (t := tgName 4) (p := bAnd (bD (op2 gNe (.vr 4) (.vr 1))) (bD (op2 gEq (.ex (eCall [true, false] g__law_take [(.vr 0), (.ex (eC (.int 2)))])) (.ex (eC (.int 0)))))) (f := eTup [(.ex (eVar 4)), (.ex (op2 gAdd (.ex (eC (.int 1))) (.ex (eCall [true, false] g__law_take [(.vr 0), (.ex (eC (.int 99)))]))))])
    (fun e => ∃ P, IsPool P ∧ e = [.pw P, .fz (.int h), .fz (.int (1 + y)), .fz (.bool en), .un, .un]) TieD (ds := rng 0 (Int.toNat 8)) ⟨P5, hP5, rfl⟩ (by
      rintro x hx e ⟨P, hP, rfl⟩
      obtain ⟨i, rfl, hi⟩ := rng_mem hx
      have hi : (i : Int) < 8 := by simp at hi; omega
      walk_at "go"
      refine wc_s (fun q => ?_) (fun q => ?_)
      · walk_at "go"
        refine take_use hP (by decide) (by decide) fun z P1 _ _ hP1 => ?_
        walk_at "go"
        refine wc_s (fun q => ?_) (fun q => ?_)
        · walk_at "go"
          refine take_use hP1 (by decide) (by decide) fun z P2 _ _ hP2 => ?_
          walk_at "go"
          refine ⟨⟨i, 1 + z, rfl, by omega, hi, by omega, by omega⟩, ?_⟩
          walk_at "go"
          exact ⟨P2, hP2, rfl⟩
        · walk_at "go"
          exact ⟨P1, hP1, rfl⟩
      · walk_at "go"
        exact ⟨P, hP, rfl⟩)
  rw [rng_len] at zl
  refine ⟨zs, _, r, ?_⟩
  walk_at "go"
  obtain ⟨ts, em, hts⟩ := mul_flag zs (!en)
  refine wq_muls em ?_
  walk_at "go"
  refine take_use hP6 (by decide) (by decide) fun ag P7 g11 g12 hP7 => ?_
  walk_at "go"
  refine ⟨h, 1 + y, en, ts, ag, P7, rfl, rfl, hP7, g1, g2, by omega, by omega, ?_, ?_, g11, g12⟩
  · rcases hts with rfl | rfl
    · exact zl
    · exact Nat.zero_le _
  · rcases hts with rfl | rfl
    · exact za
    · exact nofun
end K03

namespace K03
open PySem L2 DL
local macro_rules | `(tactic| walk_at "go") => `(tactic| repeat (with_reducible first
  | refine wo_ex ?_ | refine wl_f ?_ | refine wd_c ?_ | refine wd_op2 ?_ | refine wd_op1 ?_ | refine wd_opA ?_ | refine wv_nil ?_ | refine wv_cons ?_ | refine wk_nil ?_ | refine wk_cons ?_
  | refine wc_t ?_ | refine wc_f ?_ | refine wb_d ?_ | refine wb_and ?_ | refine wb_or ?_ | refine wb_not ?_ | refine wb_tt ?_ | refine wd_and ?_ | refine wd_or ?_ | refine wd_not ?_ | refine wd_if ?_ | refine wd_chain ?_
  | refine wd_tup ?_ | refine wd_lst ?_ | refine wd_call ?_ | refine wd_meth ?_ | refine wd_slice ?_ | refine wp_no ?_ | refine wp_at ?_ | refine wd_dict0 ?_ | refine wd_lc ?_ | refine wi_l ?_ | refine wi_t ?_ | refine wi_enT ?_ | refine wi_enL ?_ | refine wi_zipT ?_ | refine wi_r1 ?_
  | refine ws_seq ?_ | refine ws_nx ?_ | refine ws_if ?_ | refine ws_set ?_ | refine ws_setN ?_ | refine ws_drop ?_ | refine ws_ret ?_ | refine ws_retN ?_ | refine ws_unp ?_ | refine ws_setIx ?_ | refine ws_for ?_
  | refine rg_nx ?_ | refine rg_rt ?_ | refine rg_rn ?_ | refine rf_nx ?_ | refine rf_rt ?_ | refine rf_rn ?_
  | refine wx_eqI ?_ | refine wx_neI ?_ | refine wx_eqB ?_ | refine wx_neB ?_ | refine wx_eqS ?_ | refine wx_neS ?_ | refine wx_lt ?_ | refine wx_le ?_ | refine wx_gt ?_ | refine wx_ge ?_
  | refine wd_var (by with_unfolding_all rfl) ?_ | refine wd_varO (by with_unfolding_all rfl) ?_ | refine wo_f (by with_unfolding_all rfl) ?_ | refine wo_o (by with_unfolding_all rfl) ?_ | refine wo_p (by with_unfolding_all rfl) ?_ | refine wl_s (by with_unfolding_all rfl) ?_
  | refine wy_eq (by with_unfolding_all rfl) ?_ | refine we_eq (by with_unfolding_all rfl) ?_ | refine ⟨_, rfl, ?_⟩ | refine Exists.intro _ (And.intro rfl ?_)
  | refine and_put (by with_unfolding_all rfl) ?_ | refine and_len (by first | (with_unfolding_all decide) | (simp; done) | (simp; omega)) ?_
  | refine wx_toT (by omega) ?_ | refine wx_fromT (by omega) ?_ | refine wx_toL (by omega) ?_ | refine wx_fromL (by omega) ?_
  | refine wx_mul (by omega) ?_ | refine wx_mod (by omega) ?_ | refine wx_div (by omega) (by first | assumption | decide) ?_ | refine wx_pow (by decide) ?_ | refine wx_addT (by simp; omega) ?_ | refine wx_addL (by simp; omega) ?_
  | refine wq_isiT (by with_unfolding_all rfl) ?_ | refine wq_isiF (by with_unfolding_all rfl) ?_ | refine wc_T (by with_unfolding_all rfl) ?_ | refine wc_F (by with_unfolding_all rfl) ?_ | refine wq_len (by with_unfolding_all rfl) ?_ | refine wq_ix (by with_unfolding_all rfl) ?_ | refine wq_add (by with_unfolding_all rfl) ?_ | refine wq_sub (by with_unfolding_all rfl) ?_ | refine wq_neg (by with_unfolding_all rfl) ?_ | refine wq_rev (by with_unfolding_all rfl) ?_ | refine wq_cut (by with_unfolding_all rfl) ?_ | refine wq_int (by with_unfolding_all rfl) ?_ | refine wq_lst (by with_unfolding_all rfl) ?_ | refine wq_tup (by with_unfolding_all rfl) ?_ | refine wq_max (by with_unfolding_all rfl) ?_ | refine wq_min (by with_unfolding_all rfl) ?_ | refine wq_all (by with_unfolding_all rfl) ?_))
theorem tie_lv {x : D} (h : TieD x) (k : Nat) : lv 12 (k + 1) x = true := by
  obtain ⟨a, b, rfl, h1, h2, h3, h4⟩ := h
  exact lv_t (by simp) (all_cons (lv_i (by omega) _) (all_cons (lv_i (by omega) _) all_nil))
theorem first_tie {h : Int} {ts : List D} (h0 : 0 ≤ h) (h8 : h < 8) (tt : ∀ x ∈ ts, TieD x) : ∃ u v : Int, (ts ++ [.tuple [.int (7 - h), .int 1]])[(0 : Int).toNat]? = some (.tuple [.int u, .int v]) ∧ 0 ≤ u ∧ u < 8 ∧ 1 ≤ v ∧ v < 100 := by
  cases ts with
  | nil => exact ⟨_, _, rfl, by omega, by omega, by omega, by omega⟩
  | cons t r =>
    obtain ⟨a, b, rfl, h1⟩ := tt t (by simp)
    exact ⟨a, b, rfl, h1⟩
def OkD (d : D) : Prop := lv 12 4 d = true ∨ d = .dict []
theorem sheet_lv {h n : Int} {e : Bool} {ts : List D} {a : Int} (s : SheetD h n ts a) (k : Nat) : lv 12 (k + 3) (.tuple [.int h, .int n, .bool e, .tuple ts, .int a]) = true := by
  have := s.h0
  have := s.h8
  have := s.n1
  have := s.nb
  have := s.a0
  have := s.a41
  have := s.tl
  exact lv_t (by simp) (all_cons (lv_i (by omega) _) (all_cons (lv_i (by omega) _) (all_cons (lv_b _ _) (all_cons (lv_t (by omega) fun x hx => tie_lv (s.tt x hx) k) (all_cons (lv_i (by omega) _) all_nil)))))
theorem bent_spec {P : D} (hP : IsPool P) {h n : Int} {e : Bool} {ts : List D} {a : Int} (s : SheetD h n ts a) : Wf (g__law_bent [P, .tuple [.int h, .int n, .bool e, .tuple ts, .int a]]) fun d os => ∃ P' : D, os = [P'] ∧ IsPool P' ∧ OkD d := by
  have hsh := fun k => sheet_lv (e := e) s k
  have hh0 := s.h0
  have hh8 := s.h8
  have hn1 := s.n1
  have hnb := s.nb
  have ha0 := s.a0
  have ha41 := s.a41
  have htl := s.tl
  have htt := s.tt
  have lh : ∀ k, lv 12 k (.int h) = true := lv_i (by omega)
  have ln : ∀ k, lv 12 k (.int n) = true := lv_i (by omega)
  have la : ∀ k, lv 12 k (.int a) = true := lv_i (by omega)
  have lt : ∀ k, ∀ x ∈ ts, lv 12 (k + 1) x = true := fun k x hx => tie_lv (htt x hx) k
  have lts : ∀ k, lv 12 (k + 2) (.tuple ts) = true := fun k => lv_t (by omega) (lt k)
  have ltl : ∀ k, lv 12 (k + 2) (.list ts) = true := fun k => lv_l (by omega) (lt k)
  have s0 : ∀ k, lv 12 k (.str "0") = true := lv_str (by decide +kernel)
  have s1 : ∀ k, lv 12 k (.str "1") = true := lv_str (by decide +kernel)
  have s2 : ∀ k, lv 12 k (.str "sheet") = true := lv_str (by decide +kernel)
  have li : ∀ (i : Int), -1 ≤ i → i ≤ 100 → ∀ k, lv 12 k (.int i) = true := fun i h1 h2 k => lv_i (by omega) k
  obtain ⟨u, v, e0, hu⟩ := first_tie hh0 hh8 htt
  have lu : ∀ k, lv 12 k (.int u) = true := lv_i (by omega)
  have lvv : ∀ k, lv 12 k (.int v) = true := lv_i (by omega)
  have t2 : ∀ (x y : D) (k : Nat), lv 12 k x = true → lv 12 k y = true → lv 12 (k + 1) (.tuple [x, y]) = true := fun x y k h1 h2 => lv_t (by simp) (all_cons h1 (all_cons h2 all_nil))
  unfold g__law_bent d__law_bent
  refine wf_of rfl ?_
  walk_at "go"
  refine wx_ixT (by decide) e0 ?_
  walk_at "go"
  refine take_use hP (by omega) (by omega) fun at' P1 g1 g2 hP1 => ?_
  have g2 : at' < ts.length + 1 := g2
  walk_at "go"
  refine take_use hP1 (by decide) (by decide) fun way P2 g3 g4 hP2 => ?_
  simp only [env0, entry, List.set_cons_zero, List.set_cons_succ, List.replicate, List.cons_append, List.nil_append, List.length_cons, List.length_nil, Nat.reduceAdd, Nat.reduceSub]
  walk_at "go"
  refine wc_s (fun q => ?_) (fun q => ?_)
  · walk_at "go"
    refine take_use hP2 (by decide) (by decide) fun x P3 g5 g6 hP3 => ?_
    walk_at "go"
    refine wx_pick (P := fun d => lv 12 2 d = true) ?_ g5 g6 fun d hd => ?_
    · exact all_cons (t2 _ _ 1 (lh _) (li 5 (by decide) (by decide) _)) (all_cons (t2 _ _ 1 (li 8 (by decide) (by decide) _) (li 5 (by decide) (by decide) _)) (all_cons (t2 _ _ 1 (lu _) (li 0 (by decide) (by decide) _)) (all_cons (t2 _ _ 1 (lu _) (li 100 (by decide) (by decide) _))
        (all_cons (lv_t (k := 1) (by simp) (all_cons (lu _) (all_cons (lvv _) (all_cons (li 1 (by decide) (by decide) _) all_nil)))) (all_cons (lv_l (k := 1) (by simp) (all_cons (lu _) (all_cons (lvv _) all_nil))) (all_cons (lv_n _) (all_cons (t2 _ _ 1 (lv_b _ _) (li 1 (by decide) (by decide) _)) (all_cons (t2 _ _ 1 (lu _) (lv_n _)) (all_cons (t2 _ _ 1 (lu _) (lvv _)) (all_cons (t2 _ _ 1 (lu _) (lv_b _ _)) all_nil))))))))))
    walk_at "go"
    refine ⟨hP3, .inl ?_⟩
    refine lv_t (k := 3) (by simp) (all_cons (lh _) (all_cons (ln _) (all_cons (lv_b _ _) (all_cons (lv_t (k := 2) (by simp; omega) (all_app (all_app (all_take (lt 1)) (all_cons hd all_nil)) (all_drop (lt 1)))) (all_cons (la _) all_nil)))))
  walk_at "go"
  refine wc_s (fun q => ?_) (fun q => ?_)
  · walk_at "go"
    refine take_use hP2 (by decide) (by decide) fun x P3 g5 g6 hP3 => ?_
    walk_at "go"
    refine wx_pick (P := fun d => lv 12 4 d = true) ?_ g5 g6 fun d hd => ?_
    · exact all_cons (lv_t (k := 3) (by simp) (all_cons (lh _) (all_cons (ln _) (all_cons (lv_b _ _) (all_cons (lts 1) all_nil))))) (all_cons (lv_t (k := 3) (by simp) (all_cons (lh _) (all_cons (ln _) (all_cons (lv_b _ _) (all_cons (lts 1) (all_cons (la _) (all_cons (li 0 (by decide) (by decide) _) all_nil)))))))
        (all_cons (lv_l (k := 3) (by simp) (all_cons (lh _) (all_cons (ln _) (all_cons (lv_b _ _) (all_cons (lts 1) (all_cons (la _) all_nil)))))) (all_cons (lv_t (k := 3) (by simp) (all_cons (lh _) (all_cons (ln _) (all_cons (lv_b _ _) (all_cons (ltl 1) (all_cons (la _) all_nil)))))) all_nil)))
    walk_at "go"
    exact ⟨hP3, .inl hd⟩
  walk_at "go"
  refine wc_s (fun q => ?_) (fun q => ?_)
  · walk_at "go"
    refine take_use hP2 (by decide) (by decide) fun x P3 g5 g6 hP3 => ?_
    walk_at "go"
    refine wx_pick (P := fun d => lv 12 3 d = true) ?_ g5 g6 fun d hd => ?_
    · exact all_cons (li (-1) (by decide) (by decide) _) (all_cons (li 8 (by decide) (by decide) _) (all_cons (lv_b _ _) (all_cons (lv_n _) (all_cons (s0 _) all_nil))))
    walk_at "go"
    exact ⟨hP3, .inl (lv_t (k := 3) (by simp) (all_cons hd (all_cons (ln _) (all_cons (lv_b _ _) (all_cons (lts 1) (all_cons (la _) all_nil))))))⟩
  walk_at "go"
  refine wc_s (fun q => ?_) (fun q => ?_)
  · walk_at "go"
    refine take_use hP2 (by decide) (by decide) fun x P3 g5 g6 hP3 => ?_
    walk_at "go"
    refine wx_pick (P := fun d => lv 12 3 d = true) ?_ g5 g6 fun d hd => ?_
    · exact all_cons (li 0 (by decide) (by decide) _) (all_cons (li (-1) (by decide) (by decide) _) (all_cons (lv_b _ _) (all_cons (lv_n _) (all_cons (s1 _) all_nil))))
    walk_at "go"
    exact ⟨hP3, .inl (lv_t (k := 3) (by simp) (all_cons (lh _) (all_cons hd (all_cons (lv_b _ _) (all_cons (lts 1) (all_cons (la _) all_nil))))))⟩
  walk_at "go"
  refine wc_s (fun q => ?_) (fun q => ?_)
  · walk_at "go"
    refine take_use hP2 (by decide) (by decide) fun x P3 g5 g6 hP3 => ?_
    walk_at "go"
    refine wx_pick (P := fun d => lv 12 3 d = true) ?_ g5 g6 fun d hd => ?_
    · exact all_cons (li 0 (by decide) (by decide) _) (all_cons (li 1 (by decide) (by decide) _) (all_cons (lv_n _) (all_cons (lv_b _ _) all_nil)))
    walk_at "go"
    exact ⟨hP3, .inl (lv_t (k := 3) (by simp) (all_cons (lh _) (all_cons (ln _) (all_cons hd (all_cons (lts 1) (all_cons (la _) all_nil))))))⟩
  walk_at "go"
  refine wc_s (fun q => ?_) (fun q => ?_)
  · walk_at "go"
    exact ⟨hP2, .inl (lv_t (k := 3) (by simp) (all_cons (lh _) (all_cons (ln _) (all_cons (lv_b _ _) (all_cons (lv_t (k := 2) (by simp; omega) (all_rev (lt 1))) (all_cons (la _) all_nil))))))⟩
  walk_at "go"
  refine wc_s (fun q => ?_) (fun q => ?_)
  · walk_at "go"
    refine take_use hP2 (by decide) (by decide) fun x P3 g5 g6 hP3 => ?_
    walk_at "go"
    refine wx_pick (P := fun d => lv 12 3 d = true) ?_ g5 g6 fun d hd => ?_
    · exact all_cons (li 41 (by decide) (by decide) _) (all_cons (li (-1) (by decide) (by decide) _) (all_cons (lv_b _ _) (all_cons (lv_n _) (all_cons (s0 _) (all_cons (li 40 (by decide) (by decide) _) (all_cons (li 0 (by decide) (by decide) _) all_nil))))))
    walk_at "go"
    exact ⟨hP3, .inl (lv_t (k := 3) (by simp) (all_cons (lh _) (all_cons (ln _) (all_cons (lv_b _ _) (all_cons (lts 1) (all_cons hd all_nil))))))⟩
  walk_at "go"
  refine take_use hP2 (by decide) (by decide) fun x P3 g5 g6 hP3 => ?_
  walk_at "go"
  refine wx_pick (P := OkD) ?_ g5 g6 fun d hd => ?_
  · exact all_cons (.inl (lv_n _)) (all_cons (.inl (lv_t (k := 3) (by simp) all_nil)) (all_cons (.inr rfl) (all_cons (.inl (s2 _)) (all_cons (.inl (li 5 (by decide) (by decide) _)) (all_cons (.inl (lv_l (k := 3) (by simp) (all_cons (hsh 0) all_nil))) (all_cons (.inl (lv_t (k := 3) (by simp) (all_cons (hsh 0) all_nil))) all_nil))))))
  walk_at "go"
  exact ⟨hP3, hd⟩
end K03

namespace K03
open PySem L2 DL
local macro_rules | `(tactic| walk_at "go") => `(tactic| repeat (with_reducible first
  | refine wo_ex ?_ | refine wl_f ?_ | refine wd_c ?_ | refine wd_op2 ?_ | refine wd_op1 ?_ | refine wd_opA ?_ | refine wv_nil ?_ | refine wv_cons ?_ | refine wk_nil ?_ | refine wk_cons ?_
  | refine wc_t ?_ | refine wc_f ?_ | refine wb_d ?_ | refine wb_and ?_ | refine wb_or ?_ | refine wb_not ?_ | refine wb_tt ?_ | refine wd_and ?_ | refine wd_or ?_ | refine wd_not ?_ | refine wd_if ?_ | refine wd_chain ?_
  | refine wd_tup ?_ | refine wd_lst ?_ | refine wd_call ?_ | refine wd_meth ?_ | refine wd_slice ?_ | refine wp_no ?_ | refine wp_at ?_ | refine wd_dict0 ?_ | refine wd_lc ?_ | refine wi_l ?_ | refine wi_t ?_ | refine wi_enT ?_ | refine wi_enL ?_ | refine wi_zipT ?_ | refine wi_r1 ?_
  | refine ws_seq ?_ | refine ws_nx ?_ | refine ws_if ?_ | refine ws_set ?_ | refine ws_setN ?_ | refine ws_drop ?_ | refine ws_ret ?_ | refine ws_retN ?_ | refine ws_unp ?_ | refine ws_setIx ?_ | refine ws_for ?_
  | refine rg_nx ?_ | refine rg_rt ?_ | refine rg_rn ?_ | refine rf_nx ?_ | refine rf_rt ?_ | refine rf_rn ?_
  | refine wx_eqI ?_ | refine wx_neI ?_ | refine wx_eqB ?_ | refine wx_neB ?_ | refine wx_eqS ?_ | refine wx_neS ?_ | refine wx_lt ?_ | refine wx_le ?_ | refine wx_gt ?_ | refine wx_ge ?_
  | refine wd_var (by with_unfolding_all rfl) ?_ | refine wd_varO (by with_unfolding_all rfl) ?_ | refine wo_f (by with_unfolding_all rfl) ?_ | refine wo_o (by with_unfolding_all rfl) ?_ | refine wo_p (by with_unfolding_all rfl) ?_ | refine wl_s (by with_unfolding_all rfl) ?_
  | refine wy_eq (by with_unfolding_all rfl) ?_ | refine we_eq (by with_unfolding_all rfl) ?_ | refine ⟨_, rfl, ?_⟩ | refine Exists.intro _ (And.intro rfl ?_)
  | refine and_put (by with_unfolding_all rfl) ?_ | refine and_len (by first | (with_unfolding_all decide) | (simp; done) | (simp; omega)) ?_
  | refine wx_toT (by omega) ?_ | refine wx_fromT (by omega) ?_ | refine wx_toL (by omega) ?_ | refine wx_fromL (by omega) ?_
  | refine wx_mul (by omega) ?_ | refine wx_mod (by omega) ?_ | refine wx_div (by omega) (by first | assumption | decide) ?_ | refine wx_pow (by decide) ?_ | refine wx_addT (by simp; omega) ?_ | refine wx_addL (by simp; omega) ?_
  | refine wq_isiT (by with_unfolding_all rfl) ?_ | refine wq_isiF (by with_unfolding_all rfl) ?_ | refine wc_T (by with_unfolding_all rfl) ?_ | refine wc_F (by with_unfolding_all rfl) ?_ | refine wq_len (by with_unfolding_all rfl) ?_ | refine wq_ix (by with_unfolding_all rfl) ?_ | refine wq_add (by with_unfolding_all rfl) ?_ | refine wq_sub (by with_unfolding_all rfl) ?_ | refine wq_neg (by with_unfolding_all rfl) ?_ | refine wq_rev (by with_unfolding_all rfl) ?_ | refine wq_cut (by with_unfolding_all rfl) ?_ | refine wq_int (by with_unfolding_all rfl) ?_ | refine wq_lst (by with_unfolding_all rfl) ?_ | refine wq_tup (by with_unfolding_all rfl) ?_ | refine wq_max (by with_unfolding_all rfl) ?_ | refine wq_min (by with_unfolding_all rfl) ?_ | refine wq_all (by with_unfolding_all rfl) ?_))
theorem okd_repr {d : D} (h : OkD d) : gRepr d = some (.str d.shown) := by
  rcases h with h | rfl
  · exact (lv_ok 12 4 d h).repr (by decide) (by decide)
  · exact repr_dict0
theorem okd_is {d : D} (h : OkD d) : ∃ b, Tells (g_is_sheet [d]) b ∧ Tells (g__law_is [d]) b := by
  rcases h with h | rfl
  · exact ⟨_, e_is_sheet (by decide) d h, e_law_is (by decide) d h⟩
  · refine ⟨false, ?_, ?_⟩
    · unfold g_is_sheet d_is_sheet
      refine wf_of rfl ?_
      walk_at "go"
      exact ⟨rfl, rfl⟩
    · unfold g__law_is d__law_is
      refine wf_of rfl ?_
      walk_at "go"
      exact ⟨rfl, rfl⟩
abbrev Mp (s : Sv) : Prop := mayPut (some s) = true
theorem law_tells (ns : List Int) (hl : ns.length ≤ 63) : Tells (g_law [.dict [(.none, .list (ns.map .int))]]) true := by
  unfold g_law d_law
  refine wf_of rfl ?_
  generalize hS : (PyData.dict [(.none, .list (ns.map .int))]) = S
  have hlen : gLen [S] = some (.int ns.length) := by rw [← hS, len_scr, List.length_map]
  walk_at "go"
  refine wq_len hlen ?_
  walk_at "go"
  refine ⟨by split <;> split <;> omega, ?_⟩
  have hr : ∀ m : Int, m = (if (if (30 : Int) < ns.length then (30 : Int) else ns.length) > 1 then (if (30 : Int) < ns.length then (30 : Int) else ns.length) else 1) → m.toNat ≤ 30 := fun m h => by
    split at h <;> split at h <;> omega
  generalize (if (if (30 : Int) < ns.length then (30 : Int) else ns.length) > 1 then (if (30 : Int) < ns.length then (30 : Int) else ns.length) else 1) = m at hr ⊢
  have hr := hr m rfl
  refine for_use (fun e => ∃ s1 s2 s3 s4 s5 s6, Mp s1 ∧ Mp s2 ∧ Mp s3 ∧ Mp s4 ∧ Mp s5 ∧ Mp s6 ∧ e = [.fz S, s1, s2, s3, s4, s5, s6]) ⟨_, _, _, _, _, _, rfl, rfl, rfl, rfl, rfl, rfl, rfl⟩ ?_ ?_
  · rintro x hx _ ⟨s1, s2, s3, s4, s5, s6, m1, m2, m3, m4, m5, m6, rfl⟩
    obtain ⟨i, rfl, hi⟩ := rng_mem hx
    refine put_one (s := s1) m1 ?_
    walk_at "go"
    rw [← hS]
    refine wf_use (pool_spec ns i (by omega)) ?_
    rintro P _ ⟨rfl, hP⟩
    rw [hS]
    walk_at "go"
    refine ⟨m2, ?_⟩
    walk_at "go"
    refine wf_use (sheet_spec hP) ?_
    rintro _ _ ⟨h, n, en, ts, a, P1, rfl, rfl, hP1, sd⟩
    walk_at "go"
    refine ⟨m3, ?_⟩
    walk_at "go"
    refine wf_use (bent_spec hP1 sd) ?_
    rintro x1 _ ⟨P2, rfl, hP2, o1⟩
    walk_at "go"
    refine wf_use (bent_spec hP2 sd) ?_
    rintro x2 _ ⟨P3, rfl, hP3, o2⟩
    walk_at "go"
    refine wf_use (bent_spec hP3 sd) ?_
    rintro x3 _ ⟨P4, rfl, hP4, o3⟩
    walk_at "go"
    have o0 : OkD (.tuple [.int h, .int n, .bool en, .tuple ts, .int a]) := .inl (sheet_lv sd 1)
    generalize (PyData.tuple [.int h, .int n, .bool en, .tuple ts, .int a]) = x0 at o0 ⊢
    refine for_use (fun e => ∃ s4 s5 s6, Mp s4 ∧ Mp s5 ∧ Mp s6 ∧ e = [.fz S, .fz (.int i), .ow P4, .fz x0, s4, s5, s6]) ⟨_, _, _, m4, m5, m6, rfl⟩ ?_ ?_
    · rintro x hx _ ⟨s4, s5, s6, m4, m5, m6, rfl⟩
      have ox : OkD x := all_cons o0 (all_cons o1 (all_cons o2 (all_cons o3 all_nil))) x hx
      obtain ⟨b, t1, t2⟩ := okd_is ox
      refine put_one (s := s4) m4 ?_
      walk_at "go"
      refine wq_repr (okd_repr ox) ?_
      refine ⟨m5, ?_⟩
      walk_at "go"
      refine t1.use ?_
      walk_at "go"
      refine ⟨m6, ?_⟩
      walk_at "go"
      refine t2.use ?_
      walk_at "go"
      refine wc_F (by simp) ?_
      walk_at "go"
      refine wq_repr (okd_repr ox) ?_
      walk_at "go"
      refine wc_F (by simp) ?_
      walk_at "go"
      exact ⟨_, _, _, rfl, rfl, rfl, rfl⟩
    · rintro _ ⟨s4, s5, s6, m4, m5, m6, rfl⟩
      exact ⟨_, _, _, _, _, _, rfl, rfl, rfl, m4, m5, m6, rfl⟩
  · rintro _ ⟨s1, s2, s3, s4, s5, s6, m1, m2, m3, m4, m5, m6, rfl⟩
    walk_at "go"
    exact ⟨rfl, rfl⟩
theorem law_true (ns : List Int) (hl : ns.length ≤ 63) : g_law [.dict [(.none, .list (ns.map .int))]] = some (.bool true, []) := (law_tells ns hl).eq
end K03

namespace K03
open PySem PySem.Spec PyProof.Rows L2 DL
/-! ### the head: facts by names -/
def D_is_whole : He.DefD := ⟨("is_whole", none), "is_whole", "is_whole", defArgs (top 3), defBody (top 3), defScope (top 3), [], []⟩
def D_is_house : He.DefD := ⟨("is_house", none), "is_house", "is_house", defArgs (top 4), defBody (top 4), defScope (top 4), [], []⟩
def D_is_price : He.DefD := ⟨("is_price", none), "is_price", "is_price", defArgs (top 5), defBody (top 5), defScope (top 5), [], []⟩
def D_is_told_tie : He.DefD := ⟨("is_told_tie", none), "is_told_tie", "is_told_tie", defArgs (top 8), defBody (top 8), defScope (top 8), [], []⟩
def D_are_told_ties : He.DefD := ⟨("are_told_ties", none), "are_told_ties", "are_told_ties", defArgs (top 9), defBody (top 9), defScope (top 9), [], []⟩
def D_is_sheet : He.DefD := ⟨("is_sheet", none), "is_sheet", "is_sheet", defArgs (top 10), defBody (top 10), defScope (top 10), [], []⟩
def D__law_cell_at : He.DefD := ⟨("_law_cell_at", none), "_law_cell_at", "_law_cell_at", defArgs (top 12), defBody (top 12), defScope (top 12), [], []⟩
def D__law_pool : He.DefD := ⟨("_law_pool", none), "_law_pool", "_law_pool", defArgs (top 13), defBody (top 13), defScope (top 13), [], []⟩
def D__law_take : He.DefD := ⟨("_law_take", none), "_law_take", "_law_take", defArgs (top 14), defBody (top 14), defScope (top 14), [], []⟩
def D__law_below : He.DefD := ⟨("_law_below", none), "_law_below", "_law_below", defArgs (top 15), defBody (top 15), defScope (top 15), [], []⟩
def D__law_is : He.DefD := ⟨("_law_is", none), "_law_is", "_law_is", defArgs (top 16), defBody (top 16), defScope (top 16), [], []⟩
def D__law_sheet : He.DefD := ⟨("_law_sheet", none), "_law_sheet", "_law_sheet", defArgs (top 17), defBody (top 17), defScope (top 17), [], []⟩
def D__law_bent : He.DefD := ⟨("_law_bent", none), "_law_bent", "_law_bent", defArgs (top 18), defBody (top 18), defScope (top 18), [], []⟩
def D_law : He.DefD := ⟨("law", none), "law", "law", defArgs (top 19), defBody (top 19), defScope (top 19), [], []⟩
def fnl : List He.DefD := [D_is_whole, D_is_house, D_is_price, D_is_told_tie, D_are_told_ties, D_is_sheet, D__law_cell_at, D__law_pool, D__law_take, D__law_below, D__law_is, D__law_sheet, D__law_bent, D_law]
def fal : List He.Fa := [.glo "is_whole", .glo "is_house", .glo "is_price", .glo "is_told_tie", .glo "are_told_ties", .glo "is_sheet", .glo "_law_cell_at", .glo "_law_pool", .glo "_law_take", .glo "_law_below", .glo "_law_is", .glo "_law_sheet", .glo "_law_bent", .glo "law", .free "all", .free "bool", .free "enumerate", .free "int", .free "isinstance", .free "len", .free "list", .free "max", .free "min", .free "range", .free "repr", .free "tuple", .free "zip", .int "MOST_AGE" 40, .int "MOST_HOUSES" 8, .int "MOST_PRICE" 99]
abbrev Rw : PySem.W.OpenRow := PySem.W.OpenLaw.row PySem.Challenge.rw_linkheralds_k03_sheets_or_none
abbrev hk : PySem.W.Hook := He.hookD 4 fal fnl
def ob (s : PySem.W.SharedT) : He.AlD := He.obsDG 4 fal fnl (HandSHeadRun.getT s)
theorem ob_eq (s : PySem.W.SharedT) : ob s = hk.obs s.abs := He.obsDG_eq (HandSHeadRun.getT_eq s)
theorem run (w : World) : HandSHeadRun.RunEq Rw (PySem.W.view Rw.prog [19]) hk ob 20000 ["MOST_HOUSES", "MOST_PRICE", "is_whole", "is_house", "is_price", "MOST_AGE", "is_told_tie", "are_told_ties", "is_sheet", "_law_cell_at", "_law_pool", "_law_take", "_law_below", "_law_is", "_law_sheet", "_law_bent"] w := by
  intro os
  kernel_rfl
theorem facts {P : Program} {w : World} {K : PySem.W.Frag} {h : Heap} {mg : Str → Option Value} {f : Addr} (X : K.In h) (G : h.Ns mainGlobals mg) (hfa : mg ("law" : Str) = some (.ref f)) (c : He.SaysD fal fnl K) :
    ∃ fd : FuncData, (∀ (s : Shared) (v : Value), BindsTo s fd ⟨[v], []⟩ [("_law_script", v)]) ∧ ∀ base : Heap, K.In base → base.Ns mainGlobals mg → FnOkG P w K mg base 6 f fd ["_law_script"] (spD K [false] false g_law) := by
  have Z : Zs mg := ⟨He.free_ok X G (c.fact 14 (f := .free "all") rfl), He.free_ok X G (c.fact 15 (f := .free "bool") rfl), He.free_ok X G (c.fact 16 (f := .free "enumerate") rfl), He.free_ok X G (c.fact 17 (f := .free "int") rfl), He.free_ok X G (c.fact 18 (f := .free "isinstance") rfl), He.free_ok X G (c.fact 19 (f := .free "len") rfl), He.free_ok X G (c.fact 20 (f := .free "list") rfl), He.free_ok X G (c.fact 21 (f := .free "max") rfl), He.free_ok X G (c.fact 22 (f := .free "min") rfl), He.free_ok X G (c.fact 23 (f := .free "range") rfl), He.free_ok X G (c.fact 24 (f := .free "repr") rfl), He.free_ok X G (c.fact 25 (f := .free "tuple") rfl), He.free_ok X G (c.fact 26 (f := .free "zip") rfl), He.int_ok X G (c.fact 27 (f := .int "MOST_AGE" 40) rfl), He.int_ok X G (c.fact 28 (f := .int "MOST_HOUSES" 8) rfl), He.int_ok X G (c.fact 29 (f := .int "MOST_PRICE" 99) rfl)⟩
  obtain ⟨fd_is_whole, F_is_whole⟩ := c.def_ 0 (d := D_is_whole) rfl
  have m_is_whole : mg "is_whole" = _ := He.glo_ok X G (c.fact 0 (f := .glo "is_whole") rfl)
  have b_is_whole : Binds K fd_is_whole ["thing"] [] := FunD.bindsN F_is_whole fun _ _ _ _ _ _ us hl => match us, hl with | [_], _ => rfl
  obtain ⟨fd_is_house, F_is_house⟩ := c.def_ 1 (d := D_is_house) rfl
  have m_is_house : mg "is_house" = _ := He.glo_ok X G (c.fact 1 (f := .glo "is_house") rfl)
  have b_is_house : Binds K fd_is_house ["many", "thing"] [] := FunD.bindsN F_is_house fun _ _ _ _ _ _ us hl => match us, hl with | [_, _], _ => rfl
  obtain ⟨fd_is_price, F_is_price⟩ := c.def_ 2 (d := D_is_price) rfl
  have m_is_price : mg "is_price" = _ := He.glo_ok X G (c.fact 2 (f := .glo "is_price") rfl)
  have b_is_price : Binds K fd_is_price ["thing"] [] := FunD.bindsN F_is_price fun _ _ _ _ _ _ us hl => match us, hl with | [_], _ => rfl
  obtain ⟨fd_is_told_tie, F_is_told_tie⟩ := c.def_ 3 (d := D_is_told_tie) rfl
  have m_is_told_tie : mg "is_told_tie" = _ := He.glo_ok X G (c.fact 3 (f := .glo "is_told_tie") rfl)
  have b_is_told_tie : Binds K fd_is_told_tie ["house", "thing"] [] := FunD.bindsN F_is_told_tie fun _ _ _ _ _ _ us hl => match us, hl with | [_, _], _ => rfl
  obtain ⟨fd_are_told_ties, F_are_told_ties⟩ := c.def_ 4 (d := D_are_told_ties) rfl
  have m_are_told_ties : mg "are_told_ties" = _ := He.glo_ok X G (c.fact 4 (f := .glo "are_told_ties") rfl)
  have b_are_told_ties : Binds K fd_are_told_ties ["house", "thing"] [] := FunD.bindsN F_are_told_ties fun _ _ _ _ _ _ us hl => match us, hl with | [_, _], _ => rfl
  obtain ⟨fd_is_sheet, F_is_sheet⟩ := c.def_ 5 (d := D_is_sheet) rfl
  have m_is_sheet : mg "is_sheet" = _ := He.glo_ok X G (c.fact 5 (f := .glo "is_sheet") rfl)
  have b_is_sheet : Binds K fd_is_sheet ["thing"] [] := FunD.bindsN F_is_sheet fun _ _ _ _ _ _ us hl => match us, hl with | [_], _ => rfl
  obtain ⟨fd__law_cell_at, F__law_cell_at⟩ := c.def_ 6 (d := D__law_cell_at) rfl
  have m__law_cell_at : mg "_law_cell_at" = _ := He.glo_ok X G (c.fact 6 (f := .glo "_law_cell_at") rfl)
  have b__law_cell_at : Binds K fd__law_cell_at ["_law_script", "_law_k"] [] := FunD.bindsN F__law_cell_at fun _ _ _ _ _ _ us hl => match us, hl with | [_, _], _ => rfl
  obtain ⟨fd__law_pool, F__law_pool⟩ := c.def_ 7 (d := D__law_pool) rfl
  have m__law_pool : mg "_law_pool" = _ := He.glo_ok X G (c.fact 7 (f := .glo "_law_pool") rfl)
  have b__law_pool : Binds K fd__law_pool ["_law_script", "_law_k"] [] := FunD.bindsN F__law_pool fun _ _ _ _ _ _ us hl => match us, hl with | [_, _], _ => rfl
  obtain ⟨fd__law_take, F__law_take⟩ := c.def_ 8 (d := D__law_take) rfl
  have m__law_take : mg "_law_take" = _ := He.glo_ok X G (c.fact 8 (f := .glo "_law_take") rfl)
  have b__law_take : Binds K fd__law_take ["_law_pool_here", "_law_many"] [] := FunD.bindsN F__law_take fun _ _ _ _ _ _ us hl => match us, hl with | [_, _], _ => rfl
  obtain ⟨fd__law_below, F__law_below⟩ := c.def_ 9 (d := D__law_below) rfl
  have m__law_below : mg "_law_below" = _ := He.glo_ok X G (c.fact 9 (f := .glo "_law_below") rfl)
  have b__law_below : Binds K fd__law_below ["_law_thing", "_law_many"] [] := FunD.bindsN F__law_below fun _ _ _ _ _ _ us hl => match us, hl with | [_, _], _ => rfl
  obtain ⟨fd__law_is, F__law_is⟩ := c.def_ 10 (d := D__law_is) rfl
  have m__law_is : mg "_law_is" = _ := He.glo_ok X G (c.fact 10 (f := .glo "_law_is") rfl)
  have b__law_is : Binds K fd__law_is ["_law_thing"] [] := FunD.bindsN F__law_is fun _ _ _ _ _ _ us hl => match us, hl with | [_], _ => rfl
  obtain ⟨fd__law_sheet, F__law_sheet⟩ := c.def_ 11 (d := D__law_sheet) rfl
  have m__law_sheet : mg "_law_sheet" = _ := He.glo_ok X G (c.fact 11 (f := .glo "_law_sheet") rfl)
  have b__law_sheet : Binds K fd__law_sheet ["_law_pool_here"] [] := FunD.bindsN F__law_sheet fun _ _ _ _ _ _ us hl => match us, hl with | [_], _ => rfl
  obtain ⟨fd__law_bent, F__law_bent⟩ := c.def_ 12 (d := D__law_bent) rfl
  have m__law_bent : mg "_law_bent" = _ := He.glo_ok X G (c.fact 12 (f := .glo "_law_bent") rfl)
  have b__law_bent : Binds K fd__law_bent ["_law_pool_here", "_law_sheet_here"] [] := FunD.bindsN F__law_bent fun _ _ _ _ _ _ us hl => match us, hl with | [_, _], _ => rfl
  obtain ⟨fd_law, F_law⟩ := c.def_ 13 (d := D_law) rfl
  have m_law : mg "law" = _ := He.glo_ok X G (c.fact 13 (f := .glo "law") rfl)
  have e := hfa.symm.trans m_law
  cases e
  have b := FunD.bindsA (ps := ["_law_script"]) F_law fun _ _ _ _ _ _ us hl => match us, hl with | [_], _ => rfl
  refine ⟨fd_law, fun s v => b s [v] rfl, fun base _ _ => ?_⟩
  have G_is_whole : Got P w K mg base 1 "is_whole" ["thing"] (spD K [false] false g_is_whole) := ⟨_, _, ok_is_whole F_is_whole Z , m_is_whole, F_is_whole.kp, b_is_whole⟩
  have G_is_house : Got P w K mg base 2 "is_house" ["many", "thing"] (spD K [false, false] false g_is_house) := ⟨_, _, ok_is_house F_is_house Z G_is_whole, m_is_house, F_is_house.kp, b_is_house⟩
  have G_is_price : Got P w K mg base 2 "is_price" ["thing"] (spD K [false] false g_is_price) := ⟨_, _, ok_is_price F_is_price Z G_is_whole, m_is_price, F_is_price.kp, b_is_price⟩
  have G_is_told_tie : Got P w K mg base 3 "is_told_tie" ["house", "thing"] (spD K [false, false] false g_is_told_tie) := ⟨_, _, ok_is_told_tie F_is_told_tie Z G_is_house G_is_price, m_is_told_tie, F_is_told_tie.kp, b_is_told_tie⟩
  have G_are_told_ties : Got P w K mg base 4 "are_told_ties" ["house", "thing"] (spD K [false, false] false g_are_told_ties) := ⟨_, _, ok_are_told_ties F_are_told_ties Z G_is_told_tie, m_are_told_ties, F_are_told_ties.kp, b_are_told_ties⟩
  have G_is_sheet : Got P w K mg base 5 "is_sheet" ["thing"] (spD K [false] false g_is_sheet) := ⟨_, _, ok_is_sheet F_is_sheet Z G_is_whole G_is_house G_are_told_ties, m_is_sheet, F_is_sheet.kp, b_is_sheet⟩
  have G__law_cell_at : Got P w K mg base 1 "_law_cell_at" ["_law_script", "_law_k"] (spD K [false, false] false g__law_cell_at) := ⟨_, _, ok__law_cell_at F__law_cell_at Z , m__law_cell_at, F__law_cell_at.kp, b__law_cell_at⟩
  have G__law_pool : Got P w K mg base 2 "_law_pool" ["_law_script", "_law_k"] (spD K [false, false] true g__law_pool) := ⟨_, _, ok__law_pool F__law_pool Z G__law_cell_at, m__law_pool, F__law_pool.kp, b__law_pool⟩
  have G__law_take : Got P w K mg base 1 "_law_take" ["_law_pool_here", "_law_many"] (spD K [true, false] false g__law_take) := ⟨_, _, ok__law_take F__law_take Z , m__law_take, F__law_take.kp, b__law_take⟩
  have G__law_below : Got P w K mg base 1 "_law_below" ["_law_thing", "_law_many"] (spD K [false, false] false g__law_below) := ⟨_, _, ok__law_below F__law_below Z , m__law_below, F__law_below.kp, b__law_below⟩
  have G__law_is : Got P w K mg base 2 "_law_is" ["_law_thing"] (spD K [false] false g__law_is) := ⟨_, _, ok__law_is F__law_is Z G__law_below, m__law_is, F__law_is.kp, b__law_is⟩
  have G__law_sheet : Got P w K mg base 2 "_law_sheet" ["_law_pool_here"] (spD K [true] false g__law_sheet) := ⟨_, _, ok__law_sheet F__law_sheet Z G__law_take, m__law_sheet, F__law_sheet.kp, b__law_sheet⟩
  have G__law_bent : Got P w K mg base 2 "_law_bent" ["_law_pool_here", "_law_sheet_here"] (spD K [true, false] false g__law_bent) := ⟨_, _, ok__law_bent F__law_bent Z G__law_take, m__law_bent, F__law_bent.kp, b__law_bent⟩
  exact ok_law F_law Z G__law_pool G__law_sheet G__law_bent G_is_sheet G__law_is
end K03

open PySem PySem.W PySem.Calls PyProof.Rows
set_option maxHeartbeats 0 in
theorem PySem.Challenge.cw_linkheralds_k03_sheets_or_none_holds : PySem.Challenge.rw_linkheralds_k03_sheets_or_none.Holds := by
  w_on; o_law
  refine HandSHeadRun.head_any (r := OpenLaw.row PySem.Challenge.rw_linkheralds_k03_sheets_or_none) (q := view (OpenLaw.row PySem.Challenge.rw_linkheralds_k03_sheets_or_none).prog [19]) (H := K03.hk) (ob := K03.ob) (M := 20000) (loose := ["MOST_HOUSES", "MOST_PRICE", "is_whole", "is_house", "is_price", "MOST_AGE", "is_told_tie", "are_told_ties", "is_sheet", "_law_cell_at", "_law_pool", "_law_take", "_law_below", "_law_is", "_law_sheet", "_law_bent"]) (d := HandSHeadRun.topDef (OpenLaw.row PySem.Challenge.rw_linkheralds_k03_sheets_or_none).prog 19) (kwd := []) K03.ob_eq
    (by kernel_rfl) (fun s => by kernel_rfl) K03.run (by kernel_rfl) (by kernel_rfl) (by kernel_rfl) (by rfl) (by first | assumption | decide +kernel) (by decide +kernel) ⟨rfl, rfl, rfl, rfl, rfl, by decide +kernel⟩ ?hw ?hc
  case hw => w_witness2
  case hc =>
    refine DL.walkG (l := PySem.Challenge.rw_linkheralds_k03_sheets_or_none) (n := 63) (k := 6) (x := "_law_script") rfl (by decide) (by kernel_rfl) ⟨rfl, by decide, by decide⟩ ?G
    intro w mg fa h Y G hmg0
    obtain ⟨K, KX, c⟩ := Y
    have hmg : mg ("law" : PySem.Str) = some (.ref fa) := by
      have e : (HandSHeadRun.topDef (OpenLaw.row PySem.Challenge.rw_linkheralds_k03_sheets_or_none).prog 19).name = ("law" : PySem.Str) := by kernel_rfl
      rw [← e]
      exact hmg0
    obtain ⟨fd, hb, hF⟩ := K03.facts (P := (PySem.Challenge.rw_linkheralds_k03_sheets_or_none).prog) (w := w) KX G hmg c
    exact ⟨K, fd, _, KX, hb, fun H a ns hl hO hS => DL.spD_law (K03.law_true ns hl) hO hS, hF⟩

