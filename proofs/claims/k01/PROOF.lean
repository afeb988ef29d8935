import PyProof.Rows.All
import Wide.All
import OpenK.AllK
import Wide.FinOn
import HandS.ForMost
import HandS.IsInst
import HandS.Deep
import HandS.Star
import HandS.FStr
import HandS.DictComp
import HandS.Flow
import HandS.Style
import HandS.Conv
import HandS.StrMore
import HandS.ExcInit
import HandS.ExcValue
import KE.KExcInit
import KE.KExcIs
import HandS.TupAny
import HandS.RaiseMore
import HandS.TupLe
import HandS.NoneIn
import KE.GoesEnum
import PyProof.RowDictHeap
import PyProof.Rows.StrNews2
import PyProof.Rows.StrJoinMade
import KE.KDictList
import PyProof.StrWalks
import HandS.Zip
import HandS.WordsDict
import HandS.Property
import HandS.ClsMeth
import HandS.Defaults
import HandS.Strs
import HandS.SetFor
import HandS.More
import HandS.ExcIs
import PyProof.ExcBaseAll.LookupError
import PyProof.ExcBaseAll.OverflowError
import HandS.Replace
import PySem.Challenge.RW_nevermet_k01_names_words_and_variables
set_option Elab.async false
set_option linter.all false
set_option maxRecDepth 100000
set_option maxHeartbeats 4000000
/-! The data layer: Python values as plain data, defs as plain functions of data. -/
namespace Nv
open PySem L2
/-- plain data -/
inductive D where
  | non | bl (b : Bool) | int (i : Int) | str (x : Str) | lst (xs : List D) | tup (xs : List D)
  | dct (ks : List (Key × D)) | ins (c : Nat) (fs : List (Str × D)) | scr (ns : List Int) | cls (c : Nat) | exc (c : Nat) (fs : List (Str × D))
structure Exc where
  c : Nat
  fs : List (Str × D)
inductive Out (A : Type) where
  | ok (a : A) | err (x : Exc) | bad
def Out.bind {A B : Type} (x : Out A) (f : A → Out B) : Out B := match x with
  | .ok a => f a
  | .err x => .err x
  | .bad => .bad
instance : Monad Out where
  pure := Out.ok
  bind := Out.bind
@[simp] theorem ok_bind {A B : Type} (a : A) (f : A → Out B) : (Out.ok a >>= f) = f a := rfl
@[simp] theorem err_bind {A B : Type} (a : Exc) (f : A → Out B) : (Out.err a >>= f) = Out.err a := rfl
@[simp] theorem bad_bind {A B : Type} (f : A → Out B) : ((Out.bad : Out A) >>= f) = Out.bad := rfl
@[simp] theorem pure_ok {A : Type} (a : A) : (pure a : Out A) = Out.ok a := rfl
theorem bind_ok {A B : Type} {x : Out A} {f : A → Out B} {b : B} (h : (x >>= f) = .ok b) : ∃ a, x = .ok a ∧ f a = .ok b := by
  cases x with
  | ok a => exact ⟨a, rfl, h⟩
  | err x => cases h
  | bad => cases h
/-- the written part and the classes -/
structure Tab where
  K : PySem.W.Frag
  cls : Nat → Addr
/-- an exception's dict: none as yet, or at the place told -/
def ExD (F : Hp) (d : Option Addr) (gs : List (Str × V)) : Prop := (d = none ∧ gs = []) ∨ ∃ dx, d = some dx ∧ F dx = some (exd dx gs)
theorem ExD.mono {F F' : Hp} {d : Option Addr} {gs : List (Str × V)} (h : Same F F') (e : ExD F d gs) : ExD F' d gs := by
  rcases e with e | ⟨dx, e1, e2⟩
  · exact .inl e
  · exact .inr ⟨dx, e1, h _ _ e2⟩
mutual
def Rep (T : Tab) (F : Hp) : D → V → Prop
  | .non, v => v = .non
  | .bl b, v => v = .bl b
  | .int i, v => v = .int i
  | .str x, v => v = .str x
  | .lst ds, v => ∃ a vs, v = .ref a ∧ Rd F a (.lst vs) ∧ Reps T F ds vs
  | .tup ds, v => ∃ a vs, v = .ref a ∧ SqT T.K F a vs ∧ Reps T F ds vs
  | .dct ks, v => ∃ a kvs, v = .ref a ∧ F a = some (.dK kvs) ∧ RepK T F ks kvs
  | .ins c fs, v => ∃ a dx gs, v = .ref a ∧ F a = some (.ins (T.cls c) dx gs) ∧ RepF T F fs gs
  | .scr ns, v => ∃ a, v = .ref a ∧ SqL T.K F a (ns.map V.int)
  | .cls c, v => v = .ref (T.cls c)
  | .exc c fs, v => ∃ a d gs, v = .ref a ∧ F a = some (exo a (T.cls c) d) ∧ ExD F d gs ∧ RepF T F fs gs
def Reps (T : Tab) (F : Hp) : List D → List V → Prop
  | [], vs => vs = []
  | d :: ds, vs => ∃ v r, vs = v :: r ∧ Rep T F d v ∧ Reps T F ds r
def RepK (T : Tab) (F : Hp) : List (Key × D) → List (Key × V) → Prop
  | [], vs => vs = []
  | (k, d) :: ds, vs => ∃ v r, vs = (k, v) :: r ∧ Rep T F d v ∧ RepK T F ds r
def RepF (T : Tab) (F : Hp) : List (Str × D) → List (Str × V) → Prop
  | [], vs => vs = []
  | (k, d) :: ds, vs => ∃ v r, vs = (k, v) :: r ∧ Rep T F d v ∧ RepF T F ds r
end
/-- the frozen part stands in the heap, a dict perhaps locked -/
def Le (F H : Hp) : Prop := ∀ b o, F b = some o → H b = some o ∨ ((∃ ks, o = .dK ks) ∧ ∃ ob, H b = some (.frz ob o))
theorem Le.refl (F : Hp) : Le F F := fun _ _ h => .inl h
theorem Same.le {F H : Hp} (h : Same F H) : Le F H := fun b o e => .inl (h b o e)
theorem Le.sqL {K : PySem.W.Frag} {F H : Hp} {a : Addr} {xs : List V} (e : Le F H) (h : SqL K F a xs) : SqL K H a xs := by
  rcases h with (h | ⟨o, h⟩) | h
  · rcases e _ _ h with q | ⟨⟨_, q⟩, _⟩
    · exact .inl (.inl q)
    · cases q
  · rcases e _ _ h with q | ⟨⟨_, q⟩, _⟩
    · exact .inl (.inr ⟨o, q⟩)
    · cases q
  · exact .inr h
theorem Le.rdL {F H : Hp} {a : Addr} {xs : List V} (e : Le F H) (h : Rd F a (.lst xs)) : Rd H a (.lst xs) := by
  rcases h with h | ⟨o, h⟩
  · rcases e _ _ h with q | ⟨⟨_, q⟩, _⟩
    · exact .inl q
    · cases q
  · rcases e _ _ h with q | ⟨⟨_, q⟩, _⟩
    · exact .inr ⟨o, q⟩
    · cases q
theorem Same.rd {F H : Hp} {a : Addr} {u : HO} (e : Same F H) (h : Rd F a u) : Rd H a u := by
  rcases h with h | ⟨o, h⟩
  · exact .inl (e _ _ h)
  · exact .inr ⟨o, e _ _ h⟩
theorem Le.sqT {K : PySem.W.Frag} {F H : Hp} {a : Addr} {xs : List V} (e : Le F H) (h : SqT K F a xs) : SqT K H a xs := by
  rcases h with (h | ⟨o, h⟩) | h
  · rcases e _ _ h with q | ⟨⟨_, q⟩, _⟩
    · exact .inl (.inl q)
    · cases q
  · rcases e _ _ h with q | ⟨⟨_, q⟩, _⟩
    · exact .inl (.inr ⟨o, q⟩)
    · cases q
  · exact .inr h
theorem Le.none {F H : Hp} {b : Addr} (e : Le F H) (h : H b = none) : F b = none := by
  cases q : F b with
  | none => rfl
  | some o =>
    rcases e _ _ q with z | ⟨_, ob, z⟩
    · rw [h] at z; cases z
    · rw [h] at z; cases z
theorem Same.upd_new {F : Hp} {p : Addr} {o : HO} (h : F p = none) : Same F (upd F p o) := fun b u q => by
  rw [upd_ne (ne_of_none q h)]; exact q
theorem Same.sqT {K : PySem.W.Frag} {H H' : Hp} {a : Addr} {xs : List V} (e : Same H H') (h : SqT K H a xs) : SqT K H' a xs := by
  rcases h with (h | ⟨o, h⟩) | h
  · exact .inl (.inl (e _ _ h))
  · exact .inl (.inr ⟨o, e _ _ h⟩)
  · exact .inr h
section
variable {T : Tab} {F F' : Hp}
mutual
theorem Rep.mono (h : Same F F') : ∀ (d : D) (v : V), Rep T F d v → Rep T F' d v
  | .non, _, q => q
  | .bl _, _, q => q
  | .int _, _, q => q
  | .str _, _, q => q
  | .lst ds, _, q => by
    simp only [Rep] at q ⊢
    obtain ⟨a, vs, e, s, r⟩ := q
    exact ⟨a, vs, e, Same.rd h s, Reps.mono h ds vs r⟩
  | .tup ds, _, q => by
    simp only [Rep] at q ⊢
    obtain ⟨a, vs, e, s, r⟩ := q
    exact ⟨a, vs, e, Same.sqT h s, Reps.mono h ds vs r⟩
  | .dct ks, _, q => by
    simp only [Rep] at q ⊢
    obtain ⟨a, vs, e, s, r⟩ := q
    exact ⟨a, vs, e, h _ _ s, RepK.mono h ks vs r⟩
  | .ins c fs, _, q => by
    simp only [Rep] at q ⊢
    obtain ⟨a, dx, vs, e, s, r⟩ := q
    exact ⟨a, dx, vs, e, h _ _ s, RepF.mono h fs vs r⟩
  | .scr ns, _, q => by
    simp only [Rep] at q ⊢
    obtain ⟨a, e, s⟩ := q
    exact ⟨a, e, h.seq s⟩
  | .cls _, _, q => q
  | .exc c fs, _, q => by
    simp only [Rep] at q ⊢
    obtain ⟨a, d, vs, e, s, x, r⟩ := q
    exact ⟨a, d, vs, e, h _ _ s, x.mono h, RepF.mono h fs vs r⟩
theorem Reps.mono (h : Same F F') : ∀ (ds : List D) (vs : List V), Reps T F ds vs → Reps T F' ds vs
  | [], _, q => q
  | d :: ds, _, q => by
    simp only [Reps] at q ⊢
    obtain ⟨v, r, e, s, t⟩ := q
    exact ⟨v, r, e, Rep.mono h d v s, Reps.mono h ds r t⟩
theorem RepK.mono (h : Same F F') : ∀ (ds : List (Key × D)) (vs : List (Key × V)), RepK T F ds vs → RepK T F' ds vs
  | [], _, q => q
  | (k, d) :: ds, _, q => by
    simp only [RepK] at q ⊢
    obtain ⟨v, r, e, s, t⟩ := q
    exact ⟨v, r, e, Rep.mono h d v s, RepK.mono h ds r t⟩
theorem RepF.mono (h : Same F F') : ∀ (ds : List (Str × D)) (vs : List (Str × V)), RepF T F ds vs → RepF T F' ds vs
  | [], _, q => q
  | (k, d) :: ds, _, q => by
    simp only [RepF] at q ⊢
    obtain ⟨v, r, e, s, t⟩ := q
    exact ⟨v, r, e, Rep.mono h d v s, RepF.mono h ds r t⟩
end
end
/-- a slot's content: nothing known, data, a cell of the store -/
inductive Sl where
  | un | val (d : D) | ref (j : Nat)
/-- an object that is made step by step: its parts may be cells of the store -/
inductive Op where
  | ins (c : Nat) (os : List (Str × Sl)) | dct (ks : List (Key × Sl))
inductive CS where
  | own | bor | frz | opn (b : Bool) (o : Op)
structure Cell where
  k : CS
  d : D
/-- the hidden world: the frozen heap, the cells' addresses -/
structure Wo where
  F : Hp
  al : List Addr
structure Wle (W W' : Wo) : Prop where
  f : Same W.F W'.F
  al : ∀ (j : Nat) (p : Addr), W.al[j]? = some p → W'.al[j]? = some p
theorem Wle.refl (W : Wo) : Wle W W := ⟨Same.refl _, fun _ _ h => h⟩
theorem Wle.trans {A B C : Wo} (h : Wle A B) (k : Wle B C) : Wle A C := ⟨h.f.trans k.f, fun j p e => k.al j p (h.al j p e)⟩
/-- shallow: the object at p is d, its parts frozen -/
def Sh (T : Tab) (F H : Hp) (p : Addr) : D → Prop
  | .lst ds => ∃ vs, H p = some (.lst vs) ∧ Reps T F ds vs
  | .dct ks => ∃ kvs, H p = some (.dK kvs) ∧ RepK T F ks kvs
  | .ins c fs => ∃ dx gs, H p = some (.ins (T.cls c) dx gs) ∧ RepF T F fs gs
  | _ => False
theorem Sh.mono {T : Tab} {F F' H H' : Hp} {p : Addr} {d : D} (h : Sh T F H p d) (hF : Same F F') (hp : ∀ o, H p = some o → H' p = some o) : Sh T F' H' p d := by
  cases d with
  | lst ds => obtain ⟨vs, e, r⟩ := h; exact ⟨vs, hp _ e, Reps.mono hF _ _ r⟩
  | dct ks => obtain ⟨vs, e, r⟩ := h; exact ⟨vs, hp _ e, RepK.mono hF _ _ r⟩
  | ins c fs => obtain ⟨dx, vs, e, r⟩ := h; exact ⟨dx, vs, hp _ e, RepF.mono hF _ _ r⟩
  | _ => exact h.elim
theorem Sh.some {T : Tab} {F H : Hp} {p : Addr} {d : D} (h : Sh T F H p d) : ∃ o, H p = some o := by
  cases d with
  | lst ds => obtain ⟨vs, e, r⟩ := h; exact ⟨_, e⟩
  | dct ks => obtain ⟨vs, e, r⟩ := h; exact ⟨_, e⟩
  | ins c fs => obtain ⟨dx, vs, e, r⟩ := h; exact ⟨_, e⟩
  | _ => exact h.elim
/-- a frozen copy of it -/
theorem Sh.frz {T : Tab} {F H : Hp} {p : Addr} {d : D} (h : Sh T F H p d) (hn : F p = none) : ∃ o, H p = Option.some o ∧ Rep T (upd F p o) d (.ref p) := by
  have hs : ∀ o, Same F (upd F p o) := fun o => Same.upd_new hn
  cases d with
  | lst ds => obtain ⟨vs, e, r⟩ := h; exact ⟨_, e, by simp only [Rep]; exact ⟨p, vs, rfl, .inl upd_same, Reps.mono (hs _) _ _ r⟩⟩
  | dct ks => obtain ⟨vs, e, r⟩ := h; exact ⟨_, e, by simp only [Rep]; exact ⟨p, vs, rfl, upd_same, RepK.mono (hs _) _ _ r⟩⟩
  | ins c fs => obtain ⟨dx, vs, e, r⟩ := h; exact ⟨_, e, by simp only [Rep]; exact ⟨p, dx, vs, rfl, upd_same, RepF.mono (hs _) _ _ r⟩⟩
  | _ => exact h.elim
def SlR (T : Tab) (W : Wo) : Sl → V → Prop
  | .un, _ => False
  | .val d, v => Rep T W.F d v
  | .ref j, v => ∃ p, W.al[j]? = some p ∧ v = .ref p
def SlF (T : Tab) (W : Wo) : List (Str × Sl) → List (Str × V) → Prop
  | [], vs => vs = []
  | (k, d) :: ds, vs => ∃ v r, vs = (k, v) :: r ∧ SlR T W d v ∧ SlF T W ds r
def SlK (T : Tab) (W : Wo) : List (Key × Sl) → List (Key × V) → Prop
  | [], vs => vs = []
  | (k, d) :: ds, vs => ∃ v r, vs = (k, v) :: r ∧ SlR T W d v ∧ SlK T W ds r
def OpOk (T : Tab) (W : Wo) (H : Hp) (p : Addr) : Op → Prop
  | .ins c os => ∃ dx gs, H p = some (.ins (T.cls c) dx gs) ∧ SlF T W os gs
  | .dct ks => ∃ kvs, H p = some (.dK kvs) ∧ SlK T W ks kvs
def CellOk (T : Tab) (W : Wo) (H : Hp) (p : Addr) (c : Cell) : Prop := match c.k with
  | .own => Sh T W.F H p c.d ∧ W.F p = none
  | .bor => Sh T W.F H p c.d ∧ W.F p = none
  | .frz => Rep T W.F c.d (.ref p)
  | .opn _ o => c.d = .non ∧ OpOk T W H p o ∧ W.F p = none
theorem SlR.mono {T : Tab} {W W' : Wo} (h : Wle W W') : ∀ {s : Sl} {v : V}, SlR T W s v → SlR T W' s v
  | .un, _, q => q
  | .val _, _, q => Rep.mono h.f _ _ q
  | .ref _, _, ⟨p, e, r⟩ => ⟨p, h.al _ _ e, r⟩
theorem SlF.mono {T : Tab} {W W' : Wo} (h : Wle W W') : ∀ {os : List (Str × Sl)} {gs : List (Str × V)}, SlF T W os gs → SlF T W' os gs
  | [], _, q => q
  | _ :: _, _, ⟨v, r, e, q, t⟩ => ⟨v, r, e, q.mono h, SlF.mono h t⟩
theorem SlK.mono {T : Tab} {W W' : Wo} (h : Wle W W') : ∀ {os : List (Key × Sl)} {gs : List (Key × V)}, SlK T W os gs → SlK T W' os gs
  | [], _, q => q
  | _ :: _, _, ⟨v, r, e, q, t⟩ => ⟨v, r, e, q.mono h, SlK.mono h t⟩
theorem OpOk.mono {T : Tab} {W W' : Wo} {H H' : Hp} {p : Addr} (h : Wle W W') (hp : ∀ o, H p = some o → H' p = some o) : ∀ {o : Op}, OpOk T W H p o → OpOk T W' H' p o
  | .ins _ _, ⟨dx, gs, e, r⟩ => ⟨dx, gs, hp _ e, r.mono h⟩
  | .dct _, ⟨kvs, e, r⟩ => ⟨kvs, hp _ e, r.mono h⟩
structure Rl (T : Tab) (W : Wo) (σ : St) (H : Hp) (r : List Sl) (m : List Cell) : Prop where
  le : Le W.F H
  sl : ∀ (i : Nat) (s : Sl), r[i]? = some s → s ≠ .un → ∃ v, σ[i]? = some (some v) ∧ SlR T W s v
  len : r.length = σ.length
  ml : m.length = W.al.length
  ce : ∀ (j : Nat) (c : Cell) (p : Addr), m[j]? = some c → W.al[j]? = some p → CellOk T W H p c
  live : ∀ (j : Nat) (p : Addr), W.al[j]? = some p → H p ≠ none
  inj : ∀ (i j : Nat) (p : Addr), W.al[i]? = some p → W.al[j]? = some p → i = j
/-- a step: what is no cell stays, new cells and new frozen things are new -/
structure Stp (W : Wo) (H : Hp) (W' : Wo) (H' : Hp) : Prop where
  w : Wle W W'
  keep : ∀ b o, H b = some o → (∀ j : Nat, W.al[j]? ≠ some b) → H' b = some o
  more : ∀ b, H b ≠ none → H' b ≠ none
  cells : ∀ (j : Nat) (p : Addr), W'.al[j]? = some p → W.al[j]? = some p ∨ H p = none
  fr : ∀ b, W'.F b ≠ none → W.F b ≠ none ∨ H b = none ∨ ∃ j : Nat, W.al[j]? = some b
  kf : ∀ b o, W.F b ≠ none → H b = some o → H' b = some o
theorem Same.nn {F F' : Hp} (h : Same F F') {b : Addr} (e : F b ≠ none) : F' b ≠ none := by
  cases q : F b with
  | none => exact absurd q e
  | some o => rw [h b o q]; exact fun z => nomatch z
theorem Stp.refl (W : Wo) (H : Hp) : Stp W H W H := ⟨Wle.refl _, fun _ _ e _ => e, fun _ e => e, fun _ _ e => .inl e, fun _ e => .inl e, fun _ _ _ e => e⟩
theorem Stp.trans {W W1 W2 : Wo} {H H1 H2 : Hp} (h : Stp W H W1 H1) (k : Stp W1 H1 W2 H2) : Stp W H W2 H2 := by
  have no : ∀ b, H1 b = none → H b = none := fun b e => by
    cases q : H b with
    | none => rfl
    | some o => exact absurd e (h.more b (by rw [q]; exact fun z => nomatch z))
  refine ⟨h.w.trans k.w, fun b o e n => k.keep b o (h.keep b o e n) fun j z => ?_, fun b e => k.more b (h.more b e), fun j p e => ?_, fun b e => ?_, fun b o f e => k.kf b o (Same.nn h.w.f f) (h.kf b o f e)⟩
  · rcases h.cells j b z with y | y
    · exact n j y
    · rw [y] at e; cases e
  · rcases k.cells j p e with z | z
    · exact h.cells j p z
    · exact .inr (no p z)
  · rcases k.fr b e with z | z | ⟨j, z⟩
    · exact h.fr b z
    · exact .inr (.inl (no b z))
    · rcases h.cells j b z with y | y
      · exact .inr (.inr ⟨j, y⟩)
      · exact .inr (.inl y)
theorem Stp.free {W W' : Wo} {H H' : Hp} (h : Stp W H W' H') {b : Addr} (e : H' b = none) : H b = none := by
  cases q : H b with
  | none => rfl
  | some o => exact absurd e (h.more b (by rw [q]; exact fun z => nomatch z))
/-- p lies apart from all that is known -/
structure Loose (W : Wo) (p : Addr) : Prop where
  f : W.F p = none
  al : ∀ j : Nat, W.al[j]? ≠ some p
theorem Stp.fz {W W' : Wo} {H H' : Hp} {p : Addr} {o : HO} (h : Stp W H W' H') (hn : H p = none) (lo : Loose W' p) : Stp W H ⟨upd W'.F p o, W'.al⟩ H' :=
  ⟨⟨h.w.f.trans (Same.upd_new lo.f), h.w.al⟩, h.keep, h.more, h.cells, fun b e => by
    by_cases hb : b = p
    · subst hb; exact .inr (.inl hn)
    · have e : upd W'.F p o b ≠ none := e
      rw [upd_ne hb] at e; exact h.fr b e, h.kf⟩
theorem get_snoc {A : Type} {l : List A} {p q : A} {j : Nat} (e : (l ++ [p])[j]? = some q) : l[j]? = some q ∨ (j = l.length ∧ q = p) := by
  by_cases z : j < l.length
  · rw [List.getElem?_append_left z] at e; exact .inl e
  · rw [List.getElem?_append_right (by omega)] at e
    have : j - l.length = 0 := by
      cases y : j - l.length with
      | zero => rfl
      | succ n => rw [y] at e; simp at e
    rw [this] at e
    simp at e
    exact .inr ⟨by omega, e.symm⟩
theorem lt_of_get {A : Type} {l : List A} {q : A} {j : Nat} (e : l[j]? = some q) : j < l.length := by
  by_cases z : j < l.length
  · exact z
  · rw [List.getElem?_eq_none (by omega)] at e; cases e
theorem get_snoc_left {A : Type} {l : List A} {p q : A} {j : Nat} (e : l[j]? = some q) : (l ++ [p])[j]? = some q := by
  rw [List.getElem?_append_left (lt_of_get e)]; exact e
theorem Stp.push {W W' : Wo} {H H' : Hp} {p : Addr} (h : Stp W H W' H') (hn : H p = none) : Stp W H ⟨W'.F, W'.al ++ [p]⟩ H' :=
  ⟨⟨h.w.f, fun j q e => get_snoc_left (h.w.al j q e)⟩, h.keep, h.more, fun j q e => by
    rcases get_snoc e with z | ⟨_, z⟩
    · exact h.cells j q z
    · subst z; exact .inr hn, h.fr, h.kf⟩
section
variable {T : Tab} {W : Wo} {σ : St} {H : Hp} {r : List Sl} {m : List Cell}
theorem CellOk.mono {W W' : Wo} {H H' : Hp} {p : Addr} {c : Cell} (h : CellOk T W H p c) (hF : Same W.F W'.F) (hn : W.F p = none → W'.F p = none) (hp : ∀ o, H p = some o → H' p = some o)
    (hal : ∀ (j : Nat) (q : Addr), W.al[j]? = some q → W'.al[j]? = some q := by exact fun _ _ h => h) : CellOk T W' H' p c := by
  obtain ⟨k, d⟩ := c
  cases k with
  | own => exact ⟨h.1.mono hF hp, hn h.2⟩
  | bor => exact ⟨h.1.mono hF hp, hn h.2⟩
  | frz => exact Rep.mono hF _ _ h
  | opn b o => exact ⟨h.1, h.2.1.mono ⟨hF, hal⟩ hp, hn h.2.2⟩
/-- a new object at a free address, not yet frozen -/
theorem Rl.new (R : Rl T W σ H r m) {p : Addr} {o : HO} (h : H p = none) : Rl T W σ (upd H p o) r m ∧ Loose W p ∧ Stp W H W (upd H p o) := by
  have hf := R.le.none h
  have hl : ∀ j : Nat, W.al[j]? ≠ some p := fun j e => R.live j p e h
  have hk : ∀ b u, H b = some u → upd H p o b = some u := fun b u e => by rw [upd_ne (ne_of_none e h)]; exact e
  have hm : ∀ b, H b ≠ none → upd H p o b ≠ none := fun b e z => by
    unfold upd at z
    split at z
    · cases z
    · exact e z
  refine ⟨⟨fun b u q => ?_, R.sl, R.len, R.ml, fun j c q e1 e2 => ?_, fun j q e => hm q (R.live j q e), R.inj⟩, ⟨hf, hl⟩, ⟨Wle.refl _, fun b u e _ => hk b u e, hm, fun _ _ e => .inl e, fun _ e => .inl e, fun b u _ e => hk b u e⟩⟩
  · rcases R.le b u q with z | ⟨z, ob, y⟩
    · exact .inl (hk b u z)
    · exact .inr ⟨z, ob, hk b _ y⟩
  · exact (R.ce j c q e1 e2).mono (Same.refl _) (fun z => z) fun u z => hk _ u z
/-- it is frozen -/
theorem Rl.freeze (R : Rl T W σ H r m) {p : Addr} {o : HO} (h : H p = some o) (lo : Loose W p) : Rl T ⟨upd W.F p o, W.al⟩ σ H r m := by
  have hs : Same W.F (upd W.F p o) := Same.upd_new lo.f
  have hw : Wle W ⟨upd W.F p o, W.al⟩ := ⟨hs, fun _ _ e => e⟩
  refine ⟨fun b u q => ?_, fun i s q1 q2 => ?_, R.len, R.ml, fun j c q e1 e2 => ?_, R.live, R.inj⟩
  · by_cases hb : b = p
    · subst hb
      have q : upd W.F b o b = some u := q
      rw [upd_same] at q; cases q; exact .inl h
    · have q : upd W.F p o b = some u := q
      rw [upd_ne hb] at q; exact R.le b u q
  · obtain ⟨v, e, z⟩ := R.sl i s q1 q2
    exact ⟨v, e, z.mono hw⟩
  · have hb : q ≠ p := fun z => by subst z; exact lo.al j e2
    exact (R.ce j c q e1 e2).mono hs (fun z => by show upd W.F p o q = none; rw [upd_ne hb]; exact z) fun u z => z
/-- it becomes a cell of its own -/
theorem Rl.push (R : Rl T W σ H r m) {p : Addr} {d : D} (h : Sh T W.F H p d) (lo : Loose W p) : Rl T ⟨W.F, W.al ++ [p]⟩ σ H r (m ++ [⟨.own, d⟩]) := by
  have hw : Wle W ⟨W.F, W.al ++ [p]⟩ := ⟨Same.refl _, fun j q e => get_snoc_left e⟩
  refine ⟨R.le, fun i s q1 q2 => ?_, R.len, by simp [R.ml], fun j c q e1 e2 => ?_, fun j q e => ?_, fun i j q e1 e2 => ?_⟩
  · obtain ⟨v, e, z⟩ := R.sl i s q1 q2
    exact ⟨v, e, z.mono hw⟩
  · rcases get_snoc e2 with e | ⟨e, e'⟩
    · have hj : j < m.length := by rw [R.ml]; exact lt_of_get e
      rw [List.getElem?_append_left hj] at e1
      exact (R.ce j c q e1 e).mono (Same.refl _) (fun z => z) (fun _ z => z) hw.al
    · subst e'
      rw [e, ← R.ml, List.getElem?_append_right (Nat.le_refl _)] at e1
      simp at e1
      subst e1
      exact ⟨h, lo.f⟩
  · rcases get_snoc e with e | ⟨e, e'⟩
    · exact R.live j q e
    · subst e'
      obtain ⟨o, z⟩ := h.some
      rw [z]; exact fun y => nomatch y
  · rcases get_snoc e1 with e | ⟨e, e'⟩
    · rcases get_snoc e2 with y | ⟨y, y'⟩
      · exact R.inj i j q e y
      · subst y'; exact absurd e (lo.al i)
    · rcases get_snoc e2 with y | ⟨y, y'⟩
      · subst e'; exact absurd y (lo.al j)
      · omega
/-- the data of a value, frozen from now on where it was a cell of one's own -/
def toD (s : Sl) (m : List Cell) : Out (D × List Cell) := match s with
  | .un => .bad
  | .val d => .ok (d, m)
  | .ref j => match m[j]? with
    | some ⟨.own, d⟩ => .ok (d, m.set j ⟨.frz, d⟩)
    | some ⟨.frz, d⟩ => .ok (d, m)
    | _ => .bad
/-- the data of a value as it stands -/
def view (m : List Cell) (s : Sl) : Out D := match s with
  | .un => .bad
  | .val d => .ok d
  | .ref j => match m[j]? with
    | some ⟨.own, d⟩ => .ok d
    | some ⟨.bor, d⟩ => .ok d
    | some ⟨.frz, d⟩ => .ok d
    | _ => .bad
/-- v is d, its parts frozen -/
def ShV (T : Tab) (F H : Hp) (d : D) (v : V) : Prop := Rep T F d v ∨ ∃ p, v = .ref p ∧ Sh T F H p d
theorem Rl.view (R : Rl T W σ H r m) {s : Sl} {v : V} {d : D} (h : SlR T W s v) (e : view m s = .ok d) : ShV T W.F H d v := by
  cases s with
  | un => cases e
  | val d' => cases e; exact .inl h
  | ref j =>
    obtain ⟨p, e1, rfl⟩ := h
    simp only [Nv.view] at e
    cases q : m[j]? with
    | none => rw [q] at e; cases e
    | some c =>
      rw [q] at e
      have z := R.ce j c p q e1
      obtain ⟨k, d⟩ := c
      cases k with
      | own => cases e; exact .inr ⟨p, rfl, z.1⟩
      | bor => cases e; exact .inr ⟨p, rfl, z.1⟩
      | frz => cases e; exact .inl z
      | opn b o => cases e
theorem get_set_of {A : Type} {l : List A} {j i : Nat} {x y : A} (h : (l.set j x)[i]? = some y) : (i = j ∧ y = x) ∨ (i ≠ j ∧ l[i]? = some y) := by
  by_cases e : i = j
  · subst e
    by_cases hl : i < l.length
    · rw [List.getElem?_set_self hl] at h; cases h; exact .inl ⟨rfl, rfl⟩
    · rw [List.getElem?_eq_none (by simpa using hl)] at h; cases h
  · rw [List.getElem?_set_ne (Ne.symm e)] at h; exact .inr ⟨e, h⟩
theorem Rl.toD (R : Rl T W σ H r m) {s : Sl} {v : V} {d : D} {m' : List Cell} (h : SlR T W s v) (e : toD s m = .ok (d, m')) : ∃ W', Stp W H W' H ∧ Rl T W' σ H r m' ∧ Rep T W'.F d v := by
  cases s with
  | un => cases e
  | val d' => cases e; exact ⟨W, Stp.refl _ _, R, h⟩
  | ref j =>
    obtain ⟨p, e1, rfl⟩ := h
    simp only [Nv.toD] at e
    cases q : m[j]? with
    | none => rw [q] at e; cases e
    | some c =>
      rw [q] at e
      have z := R.ce j c p q e1
      obtain ⟨k, d'⟩ := c
      cases k with
      | bor => cases e
      | opn b o => cases e
      | frz => cases e; exact ⟨W, Stp.refl _ _, R, z⟩
      | own =>
        cases e
        obtain ⟨z1, z2⟩ := z
        obtain ⟨o, ho, hr⟩ := z1.frz z2
        have hs : Same W.F (upd W.F p o) := Same.upd_new z2
        have hw : Wle W ⟨upd W.F p o, W.al⟩ := ⟨hs, fun _ _ e => e⟩
        refine ⟨⟨upd W.F p o, W.al⟩, ⟨hw, fun _ _ e _ => e, fun _ e => e, fun _ _ e => .inl e, fun b e => ?_, fun _ _ _ e => e⟩, ⟨fun b u q => ?_, fun i s q1 q2 => ?_, R.len, by simp [R.ml], fun i c q' e1' e2 => ?_, R.live, R.inj⟩, hr⟩
        · by_cases hb : b = p
          · subst hb; exact .inr (.inr ⟨j, e1⟩)
          · have e : upd W.F p o b ≠ none := e
            rw [upd_ne hb] at e; exact .inl e
        · by_cases hb : b = p
          · subst hb
            have q : upd W.F b o b = some u := q
            rw [upd_same] at q; cases q; exact .inl ho
          · have q : upd W.F p o b = some u := q
            rw [upd_ne hb] at q; exact R.le b u q
        · obtain ⟨v, e, z⟩ := R.sl i s q1 q2
          exact ⟨v, e, z.mono hw⟩
        · rcases get_set_of e1' with ⟨rfl, rfl⟩ | ⟨hne, e3⟩
          · have e2 : W.al[i]? = some q' := e2
            rw [e1] at e2; cases e2
            exact hr
          · have hb : q' ≠ p := fun z => by subst z; exact hne (R.inj i j q' e2 e1)
            exact (R.ce i c q' e3 e2).mono hs (fun z => by show upd W.F p o q' = none; rw [upd_ne hb]; exact z) fun u z => z
/-- a new object, frozen at once -/
theorem Rl.newFz (R : Rl T W σ H r m) {p : Addr} {o : HO} (h : H p = none) : Rl T ⟨upd W.F p o, W.al⟩ σ (upd H p o) r m ∧ Stp W H ⟨upd W.F p o, W.al⟩ (upd H p o) := by
  obtain ⟨R1, lo, st⟩ := R.new (o := o) h
  exact ⟨R1.freeze upd_same lo, st.fz h lo⟩
/-- a cell is changed: its object is another one -/
theorem Rl.write (R : Rl T W σ H r m) {j : Nat} {p : Addr} {c : Cell} {o : HO} {d : D} (hp : W.al[j]? = some p) (hc : m[j]? = some c) (hk : c.k = .own ∨ c.k = .bor) (hs : Sh T W.F (upd H p o) p d) :
    Rl T W σ (upd H p o) r (m.set j ⟨c.k, d⟩) ∧ Stp W H W (upd H p o) := by
  have ok := R.ce j c p hc hp
  have hf : W.F p = none := by
    obtain ⟨k, d0⟩ := c
    rcases hk with z | z <;> cases z <;> exact ok.2
  have hm : ∀ b, H b ≠ none → upd H p o b ≠ none := fun b e z => by
    unfold upd at z
    split at z
    · cases z
    · exact e z
  refine ⟨⟨fun b u q => ?_, R.sl, R.len, by simp [R.ml], fun i c' q e1 e2 => ?_, fun i q e => hm q (R.live i q e), R.inj⟩, ⟨Wle.refl _, fun b u e n => ?_, hm, fun _ _ e => .inl e, fun _ e => .inl e, fun b u f e => by rw [upd_ne (fun z => by subst z; exact f hf)]; exact e⟩⟩
  · have hb : b ≠ p := fun z => by subst z; rw [hf] at q; cases q
    rw [upd_ne hb]; exact R.le b u q
  · rcases get_set_of e1 with ⟨rfl, rfl⟩ | ⟨hne, e3⟩
    · rw [hp] at e2; cases e2
      obtain ⟨k, d0⟩ := c
      rcases hk with z | z <;> cases z <;> exact ⟨hs, hf⟩
    · have hb : q ≠ p := fun z => by subst z; exact hne (R.inj i j q e2 hp)
      exact (R.ce i c' q e3 e2).mono (Same.refl _) (fun z => z) fun u z => by rw [upd_ne hb]; exact z
  · have hb : b ≠ p := fun z => by subst z; exact n j hp
    rw [upd_ne hb]; exact e
/-- a slot is set -/
theorem Rl.set (R : Rl T W σ H r m) {i : Nat} {s : Sl} {v : V} (h : SlR T W s v) : Rl T W (σ.set i (some v)) H (r.set i s) m := by
  refine ⟨R.le, fun j s' e n => ?_, by simp [R.len], R.ml, R.ce, R.live, R.inj⟩
  rcases get_set_of e with ⟨rfl, rfl⟩ | ⟨hne, e⟩
  · have hj : j < r.length := by have := lt_of_get e; simpa using this
    exact ⟨v, List.getElem?_set_self (by rw [← R.len]; exact hj), h⟩
  · obtain ⟨u, e1, z⟩ := R.sl j s' e n
    exact ⟨u, by rw [List.getElem?_set_ne (Ne.symm hne)]; exact e1, z⟩
end
end Nv
set_option Elab.async false
set_option linter.all false
set_option maxRecDepth 100000
set_option maxHeartbeats 4000000
namespace Nv
open PySem PySem.Spec PyProof.Rows L2
/-! ### exceptions as objects: made, their fields stored, read -/
/-- the built-in's __init__ -/
structure XinF (B initId : String) : Prop where
  init : Slot B "__init__" initId
  entry : entryFor table initId = some Builtin.«BaseException.__init__»
  split : splitId initId = some (B, "__init__")
  kind : builtinKind initId = some .slot
  row : Manifest.signature? initId = some ⟨.positional, "*", B, .self, [⟨"args", .varPos, false⟩]⟩
  ns : (B != "*") = true
theorem XinF.of {B newId initId : String} (F : ExcCallFacts B newId initId) : XinF B initId := ⟨F.init, F.initEntry, F.initSplit, F.initKind, F.initRow, F.noStar⟩
/-- what the written part says of an exception class over the built-in B -/
structure XcB (K : PySem.W.Frag) (C : Addr) (B newId initId : String) (bmB : List Value) : Prop where
  fb : ∃ (Bn initN : String) (bmN : List Value), ExcBaseFacts Bn newId initN bmN ∧ bmB.contains (.type Bn) = true ∧ bmB.contains (.type "AttributeError") = false ∧ bmB.contains (.type "NameError") = false
  fi : XinF B initId
  hb : bmB.contains (.type B) = true
  sf : StoreFacts B bmB "object.__setattr__" "object"
  hi : PySem.W.excInitIn K C bmB newId = true
  ho : PySem.W.excOver K C bmB = true
  hd : PySem.W.hasDictIn K C = true
  sa : PySem.W.findIn K (.ref C) "__setattr__" = some (some (.builtin "object.__setattr__"))
section
variable {X : Cx} {pins : List (Addr × Obj)} {σ : L2.St} {H : Hp} {s : Shared} {a C dx : Addr} {f : Str} {y : V} {u : Value} {fs : List (Str × V)} {E : Value → Shared → Prop} {A : Around} {B newId initId : String} {bmB : List Value}
theorem xst_new {Q : Unit → Shared → Prop} (T : XcB X.K C B newId initId bmB) (I : Inv X pins σ H s) (e : H a = some (exo a C none)) (hno : PySem.W.findIn X.K (.ref C) f = some none) (ry : RelV y u)
    (h : ∀ dx s', H dx = none → dx ≠ a → Inv X pins σ (upd (upd H a (exo a C (some dx))) dx (exd dx [(f, y)])) s' → Q () s') : wpAny (model X.prog X.w) A (setAttr (.ref a) f u) Q E s := by
  obtain ⟨t1, ho⟩ := exo_at I.hok e
  obtain ⟨cd, hcd, hh⟩ := PySem.W.any_some T.hd
  obtain ⟨hp, g, d, t, os⟩ := s
  have In : PySem.W.InstAt hp a { cls := .ref C, dict := none, data := .fields #[.ref t1, .none, .none, .none, .bool false, .none] } C none := ⟨ho, rfl, rfl, trivial⟩
  refine PySem.W.set_plain I.kIn In T.sa ?_
  refine PySem.W.osa_openX (r := none) T.sf I.kIn In T.ho (by unfold PySem.W.takerIn; rw [hno]; rfl) fun b => ?_
  have hcls : PySem.W.Looks (model X.prog X.w) hp (classData C) cd := PySem.W.looks_clsIn I.kIn hcd
  obtain ⟨nm, bs, mro, ns, qn, hd, sn, sb, ab, col, del⟩ := cd
  dsimp only at hh
  subst hh
  have ax : a ≠ hp.objs.size := Nat.ne_of_lt (Heap.lt_size ho)
  dsimp only
  unfold PySem.Builtin.ObjectAttr.storeInOwnDict PySem.Builtin.ObjectAttr.ownDictForStores
  repeat (first | with_reducible refine PySem.HandSPX.store_in_new ?_ ?_ | with_reducible refine wpAny_loadPart_at ho ?_ | with_reducible refine hcls.at ?_ | wp_step)
  · exact ⟨_, #[], _, (Heap.get?_update_ne _ _ _ _ ax.symm).trans (Heap.get?_push_at rfl rfl), rfl, fun _ z => absurd z (by simp), fun _ => rfl⟩
  · intro h' tk' hn' hs
    have hnd : H hp.objs.size = none := I.hok.fresh (Nat.le_refl _)
    have old : ∀ {b : Addr} {o : Obj}, hp.get? b = some o → b ≠ hp.objs.size := fun z => Nat.ne_of_lt (Heap.lt_size z)
    have ka : h'.get? a = some { cls := .ref C, dict := some hp.objs.size, data := .fields #[.ref t1, .none, .none, .none, .bool false, .none] } :=
      (hs.2 a ax).trans (Heap.get?_update_self _ (Heap.get?_push_of_some _ ho) rfl)
    obtain ⟨G, g1, g2⟩ := restrict h' fun b => decide (b ≠ hp.objs.size)
    have J := I.write (t' := t) (x := a) (e := a) (o := exo a C (some hp.objs.size)) (h' := G) (by rw [e]; exact True.intro) (.inl rfl)
      (fun b o hb z => (g1 b (decide_eq_true (old z))).trans ((hs.2 b (old z)).trans ((Heap.get?_update_ne _ _ _ _ hb).trans (Heap.get?_push_of_some _ z)))) ⟨_, (g1 a (decide_eq_true ax)).trans ka⟩ (exo_ok ((g1 a (decide_eq_true ax)).trans ka))
    refine h hp.objs.size _ hnd ax.symm (J.laidN (h' := h') (t' := tk') (a := hp.objs.size) (o := exd hp.objs.size [(f, y)]) (fun b o z => ?_) (g2 _ (by simp)) (by rw [upd_ne ax.symm]; exact hnd) (exd_ok hn' (relO_put (fs := []) ry fun g => True.intro)))
    by_cases hb : b = hp.objs.size
    · rw [hb, g2 _ (by simp)] at z; cases z
    · rw [← g1 b (decide_eq_true hb)]; exact z
theorem xst_old {Q : Unit → Shared → Prop} (T : XcB X.K C B newId initId bmB) (I : Inv X pins σ H s) (e : H a = some (exo a C (some dx))) (ed : H dx = some (exd dx fs)) (hl : fs.length ≤ 900) (hno : PySem.W.findIn X.K (.ref C) f = some none) (ry : RelV y u)
    (h : ∀ s', Inv X pins σ (upd H dx (exd dx ((f, y) :: fs))) s' → Q () s') : wpAny (model X.prog X.w) A (setAttr (.ref a) f u) Q E s := by
  obtain ⟨t1, ho⟩ := exo_at I.hok e
  obtain ⟨mA, hns, rel⟩ := exd_at I.hok ed
  obtain ⟨cd, hcd, hh⟩ := PySem.W.any_some T.hd
  have hw := within_of rel
  obtain ⟨oD, _, _, hoD, _, _⟩ := hns.count hw
  obtain ⟨hp, g, d, t, os⟩ := s
  have In : PySem.W.InstAt hp a { cls := .ref C, dict := some dx, data := .fields #[.ref t1, .none, .none, .none, .bool false, .none] } C (some oD) := ⟨ho, rfl, rfl, hoD⟩
  refine PySem.W.set_plain I.kIn In T.sa ?_
  refine PySem.W.osa_openX (r := none) T.sf I.kIn In T.ho (by unfold PySem.W.takerIn; rw [hno]; rfl) fun b => ?_
  have hcls : PySem.W.Looks (model X.prog X.w) hp (classData C) cd := PySem.W.looks_clsIn I.kIn hcd
  obtain ⟨nm, bs, mro, ns, qn, hd, sn, sb, ab, col, del⟩ := cd
  dsimp only at hh
  subst hh
  dsimp only
  unfold PySem.Builtin.ObjectAttr.storeInOwnDict PySem.Builtin.ObjectAttr.ownDictForStores
  repeat (first | with_reducible refine PySem.OEX.store_in_old hns hw (by rw [List.length_map]; omega) ?_ | with_reducible refine wpAny_loadPart_at ho ?_ | with_reducible refine hcls.at ?_ | wp_step)
  intro h' tk' hn' hs
  have hd' : ∃ o, h'.get? dx = some o := by
    obtain ⟨o, _, _, q, _⟩ := hn'
    exact ⟨o, q⟩
  exact h _ (I.write (t' := tk') (x := dx) (e := dx) (o := exd dx ((f, y) :: fs)) (by rw [ed]; exact True.intro) (.inl rfl) (fun b o hb z => (hs.2 b hb).trans z) hd' (exd_ok hn' (relO_put ry rel)))
theorem xini_check {M : Model} {h : Heap} {g : Array GenState} {d : Drawn} {t : Nat} {os : OsState} {nm q : Str} {C N e : Addr} {oe : Obj} {bs bm : List Value} {hdct : Bool} {sn : List Str} {sub : List Value} {ab : Bool} {col : Option Bool} {dd : Option Addr} {k0 k1 k2 k3 k5 : Option Value} {newId : String} {rest : List Value} {Q : Unit → Shared → Prop}
    (F : XinF B initId) (hB : (Value.ref C :: bm).contains (.type B) = true) (hC : h.get? C = some (excClassObj nm q C N bs bm hdct sn sub ab col dd k0 k1 k2 k3 k5 newId)) (he : h.get? e = some oe) (hcls : oe.cls = .ref C) (hq : Q () ⟨h, g, d, t, os⟩) :
    wpAny M A (checkBuiltinCall initId ⟨.ref e :: rest, []⟩) Q E ⟨h, g, d, t, os⟩ := by
  have ns := F.ns
  simp only [checkBuiltinCall, F.kind, F.split, F.row]
  repeat (first | (with_reducible refine wpAny_loadPart_at he ?_; rw [hcls]) | with_reducible refine wpAny_loadPart_at hC ?_ | (with_reducible refine wpAny_isSubtype_exc hC ?_; rw [hB]) | wp_step)
  refine wpAny_onRaise ?_
  rw [show ∀ (a b : String) (n : Nat), Bind.check ⟨.positional, "*", B, .self, [⟨"args", .varPos, false⟩]⟩ a b n (List.map (fun x => x.fst) ({ pos := Value.ref e :: rest } : Args).kw) = pure () from fun a b n => check_star_args ..]
  exact wpAny_pure hq
/-- the built-in's __init__(self, ..): nothing of it is told -/
theorem xinit_ok {us : List Value} {Q : Value → Shared → Prop} (T : XcB X.K C B newId initId bmB) (I : Inv X pins σ H s) (e : H a = some (exo a C none)) (hl : us.length ≤ sizeLine) (h : ∀ s', Inv X pins σ H s' → Q .none s') :
    wpAny (model X.prog X.w) A (call (.builtin initId) (.ref a :: us)) Q E s := by
  obtain ⟨nm, N, qn, bs, bm, hdct, sn, sub, ab, col, dd, k0, k1, k2, k3, k5, hC, hT⟩ := PySem.W.excInit_of I.kIn T.hi
  obtain ⟨t1, ho⟩ := exo_at I.hok e
  obtain ⟨hp, g, d, t, os⟩ := s
  have eq : upd H a (exo a C none) = H := by
    funext b
    by_cases hb : b = a
    · subst hb; rw [upd_same, e]
    · rw [upd_ne hb]
  refine wpAny_call (codeAny_call_builtin T.fi.init.plain T.fi.entry (xini_check T.fi (by rw [List.contains_cons, hT, T.hb, Bool.or_true]) hC ho rfl ?_))
  wp_walk
  have hx : (((hp.push { cls := .type "tuple", data := .seq us.toArray }).update a (Obj.mapFields (·.setIfInBounds 0 (Value.ref hp.objs.size)))).get? a) = some (PySem.HandSPX.excO C hp.objs.size) := by
    rw [Heap.get?_update_self _ (Heap.get?_push_of_some _ ho) rfl]
    rfl
  have J := I.write (t' := t) (x := a) (e := a) (o := exo a C none) (by rw [e]; exact True.intro) (.inl rfl) (fun b o hb z => by rw [Heap.get?_update_other _ _ (Ne.symm hb)]; exact Heap.get?_push_of_some _ z) ⟨_, hx⟩ (exo_ok hx)
  rw [eq] at J
  exact h _ J
end
end Nv
set_option Elab.async false
set_option linter.all false
set_option maxRecDepth 100000
set_option maxHeartbeats 4000000
namespace Nv
open PySem L2
abbrev SE := List Sl → List Cell → Out (Sl × List Cell)
abbrev SF := List Sl → List Cell → Out (D × List Cell)
abbrev SA := List Sl → List Cell → Out (List Sl × List Cell)
abbrev SB := List Sl → List Cell → Out (Bool × List Cell)
inductive Fl where
  | nx | bk | ct | rt (d : D)
abbrev SS := List Sl → List Cell → Out (Fl × List Sl × List Cell)
abbrev Cl := Nat → Addr
/-- the slots' values -/
def SlRs (T : Tab) (W : Wo) : List Sl → List V → Prop
  | [], vs => vs = []
  | s :: ss, vs => ∃ v r, vs = v :: r ∧ SlR T W s v ∧ SlRs T W ss r
theorem SlRs.mono {T : Tab} {W W' : Wo} (h : Wle W W') : ∀ {ss : List Sl} {vs : List V}, SlRs T W ss vs → SlRs T W' ss vs
  | [], _, q => q
  | _ :: _, _, ⟨v, r, e, q, t⟩ => ⟨v, r, e, q.mono h, SlRs.mono h t⟩
/-- e gives what f says -/
structure DE (cl : Cl) (X : Cx) (e : Expr) (f : SE) : Prop where
  ex : ∃ t, PE X e t ∧ ∀ W σ H r m, Rl ⟨X.K, cl⟩ W σ H r m → ∀ s m', f r m = .ok (s, m') → ∀ Q : VK,
    (∀ v W' H', Stp W H W' H' → Rl ⟨X.K, cl⟩ W' σ H' r m' → SlR ⟨X.K, cl⟩ W' s v → Q v H') → t σ H Q
/-- e gives a new object, which nobody else holds -/
structure FE (cl : Cl) (X : Cx) (e : Expr) (f : SF) : Prop where
  ex : ∃ t, PE X e t ∧ ∀ W σ H r m, Rl ⟨X.K, cl⟩ W σ H r m → ∀ d m', f r m = .ok (d, m') → ∀ Q : VK,
    (∀ p W' H', Stp W H W' H' → Rl ⟨X.K, cl⟩ W' σ H' r m' → H p = none → Loose W' p → Sh ⟨X.K, cl⟩ W'.F H' p d → Q (.ref p) H') → t σ H Q
structure DA (cl : Cl) (X : Cx) (es : List Expr) (f : SA) : Prop where
  ex : ∃ t, PA X es t ∧ ∀ W σ H r m, Rl ⟨X.K, cl⟩ W σ H r m → ∀ ss m', f r m = .ok (ss, m') → ∀ Q : List V → Hp → Prop,
    (∀ vs W' H', Stp W H W' H' → Rl ⟨X.K, cl⟩ W' σ H' r m' → SlRs ⟨X.K, cl⟩ W' ss vs → Q vs H') → t σ H Q
structure DT (cl : Cl) (X : Cx) (e : Expr) (f : SB) : Prop where
  ex : ∃ t, PT X e t ∧ ∀ W σ H r m, Rl ⟨X.K, cl⟩ W σ H r m → ∀ b m', f r m = .ok (b, m') → ∀ Q : Bool → Hp → Prop,
    (∀ W' H', Stp W H W' H' → Rl ⟨X.K, cl⟩ W' σ H' r m' → Q b H') → t σ H Q
/-- a part of and, or -/
structure DW (cl : Cl) (X : Cx) (e : Expr) (f : SB) : Prop where
  ex : ∃ t, PW X e t ∧ ∀ W σ H r m, Rl ⟨X.K, cl⟩ W σ H r m → ∀ b m', f r m = .ok (b, m') → ∀ Q : Bool → Hp → Prop,
    (∀ W' H', Stp W H W' H' → Rl ⟨X.K, cl⟩ W' σ H' r m' → Q b H') → t σ H Q
def FlQ (T : Tab) (W : Wo) (Dn : Ends) (σ : St) (H : Hp) : Fl → Prop
  | .nx => Dn.nx σ H
  | .bk => Dn.bk σ H
  | .ct => Dn.ct σ H
  | .rt d => ∀ v, Rep T W.F d v → Dn.rt v H
structure DS (cl : Cl) (X : Cx) (st : Stmt) (f : SS) : Prop where
  ex : ∃ t, PS X st t ∧ ∀ W σ H r m, Rl ⟨X.K, cl⟩ W σ H r m → ∀ fl r' m', f r m = .ok (fl, r', m') → ∀ Dn : Ends,
    (∀ W' σ' H', Stp W H W' H' → Rl ⟨X.K, cl⟩ W' σ' H' r' m' → FlQ ⟨X.K, cl⟩ W' Dn σ' H' fl) → t Dn σ H
structure DSs (cl : Cl) (X : Cx) (st : List Stmt) (f : SS) : Prop where
  ex : ∃ t, PSs X st t ∧ ∀ W σ H r m, Rl ⟨X.K, cl⟩ W σ H r m → ∀ fl r' m', f r m = .ok (fl, r', m') → ∀ Dn : Ends,
    (∀ W' σ' H', Stp W H W' H' → Rl ⟨X.K, cl⟩ W' σ' H' r' m' → FlQ ⟨X.K, cl⟩ W' Dn σ' H' fl) → t Dn σ H
section
variable {cl : Cl} {X : Cx}
/-! ### names, constants -/
def sVar (i : Nat) : SE := fun r m => match r[i]? with
  | some (.val d) => .ok (.val d, m)
  | some (.ref j) => .ok (.ref j, m)
  | _ => .bad
theorem de_var (i : Nat) {x : Str} {pos : Pos} (hN : X.N[i]? = some x := by rfl) (hv : Vis X.env.scope x := by first | exact Or.inl rfl | exact Or.inr (Or.inl rfl) | exact Or.inr (Or.inr rfl)) (hd : (x == ("__debug__" : Str)) = false := by decide)
    (hcd : (x == ("__classdict__" : Str)) = false := by decide) : DE cl X (.Name x pos) (sVar i) := by
  refine ⟨_, pe_var hN hv hd hcd, fun W σ H r m R s m' e Q k => ?_⟩
  simp only [sVar] at e
  cases q : r[i]? with
  | none => rw [q] at e; cases e
  | some sl =>
    rw [q] at e
    cases sl with
    | un => cases e
    | val d =>
      cases e
      obtain ⟨v, e1, z⟩ := R.sl i _ q (fun y => nomatch y)
      exact ⟨v, e1, k v W H (Stp.refl _ _) R z⟩
    | ref j =>
      cases e
      obtain ⟨v, e1, z⟩ := R.sl i _ q (fun y => nomatch y)
      exact ⟨v, e1, k v W H (Stp.refl _ _) R z⟩
def sC (d : D) : SE := fun _ m => .ok (.val d, m)
theorem de_tC {e : Expr} {d : D} {v : V} (h : PE X e (tC v)) (hv : ∀ F, Rep ⟨X.K, cl⟩ F d v) : DE cl X e (sC d) := by
  refine ⟨_, h, fun W σ H r m R s m' e Q k => ?_⟩
  cases e
  exact k v W H (Stp.refl _ _) R (hv _)
theorem de_int {i j pos} : DE cl X (.Constant (.int i) j pos) (sC (.int i)) := de_tC pe_int fun _ => rfl
theorem de_bl {b j pos} : DE cl X (.Constant (.bool b) j pos) (sC (.bl b)) := de_tC pe_bl fun _ => rfl
theorem de_non {j pos} : DE cl X (.Constant .none j pos) (sC .non) := de_tC pe_non fun _ => rfl
theorem de_str {x j pos} : DE cl X (.Constant (.str x) j pos) (sC (.str x)) := de_tC pe_str fun _ => rfl
/-- a module's constant -/
theorem de_glob {x : Str} {v : V} {d : D} {u : Value} {pos : Pos} (hg : Gl X x) (hm : X.mg x = some u) (rv : RelV v u) (hv : ∀ F, Rep ⟨X.K, cl⟩ F d v) (hd : (x == ("__debug__" : Str)) = false := by decide) : DE cl X (.Name x pos) (sC d) :=
  de_tC (pe_glob hg hm rv hd) hv
/-! ### a new object as data, as a cell -/
def sFz (f : SF) : SE := fun r m => do
  let (d, m1) ← f r m
  .ok (.val d, m1)
def sMu (f : SF) : SE := fun r m => do
  let (d, m1) ← f r m
  .ok (.ref m1.length, m1 ++ [⟨.own, d⟩])
theorem FE.fz {e : Expr} {f : SF} (h : FE cl X e f) : DE cl X e (sFz f) := by
  obtain ⟨t, h1, h2⟩ := h.ex
  refine ⟨t, h1, fun W σ H r m R s m' e Q k => ?_⟩
  obtain ⟨⟨d, m1⟩, e1, e2⟩ := bind_ok e
  cases e2
  refine h2 W σ H r m R d _ e1 Q fun p W' H' hw R' hn lo sh => ?_
  obtain ⟨o, ho, hr⟩ := sh.frz lo.f
  exact k _ _ H' (hw.fz hn lo) (R'.freeze ho lo) hr
theorem FE.mu {e : Expr} {f : SF} (h : FE cl X e f) : DE cl X e (sMu f) := by
  obtain ⟨t, h1, h2⟩ := h.ex
  refine ⟨t, h1, fun W σ H r m R s m' e Q k => ?_⟩
  obtain ⟨⟨d, m1⟩, e1, e2⟩ := bind_ok e
  cases e2
  refine h2 W σ H r m R d _ e1 Q fun p W' H' hw R' hn lo sh => ?_
  refine k _ _ H' (hw.push hn) (R'.push sh lo) ⟨p, ?_, rfl⟩
  rw [R'.ml]
  exact List.getElem?_concat_length ..
/-! ### arguments -/
def aNil : SA := fun _ m => .ok ([], m)
def aCons (f : SE) (g : SA) : SA := fun r m => do
  let (s, m1) ← f r m
  let (ss, m2) ← g r m1
  .ok (s :: ss, m2)
theorem da_nil : DA cl X [] aNil := ⟨_, pa_nil, fun W σ H r m R ss m' e Q k => by cases e; exact k [] W H (Stp.refl _ _) R rfl⟩
theorem da_cons {e : Expr} {es : List Expr} {f : SE} {g : SA} (h : DE cl X e f) (hr : DA cl X es g) (hs : starEach (e :: es) X.env = (false, eval e X.env) :: starEach es X.env := by rfl) : DA cl X (e :: es) (aCons f g) := by
  obtain ⟨t, h1, h2⟩ := h.ex
  obtain ⟨u, g1, g2⟩ := hr.ex
  refine ⟨_, pa_cons h1 g1 hs, fun W σ H r m R ss m' e Q k => ?_⟩
  obtain ⟨⟨s, m1⟩, e1, e2⟩ := bind_ok e
  obtain ⟨⟨ss', m2⟩, e3, e4⟩ := bind_ok e2
  cases e4
  refine h2 W σ H r m R s m1 e1 _ fun v W1 H1 w1 R1 z1 => ?_
  refine g2 W1 σ H1 r m1 R1 ss' m' e3 _ fun vs W2 H2 w2 R2 z2 => ?_
  exact k _ W2 H2 (w1.trans w2) R2 ⟨v, vs, rfl, z1.mono w2.w, z2⟩
/-! ### two-place operations -/
/-- r is served by op: the result is there, or new -/
def OpD (T : Tab) (r : R2) (op : D → D → Out D) : Prop := ∀ (F H : Hp) (x y : V) (dx dy d : D), Le F H → ShV T F H dx x → ShV T F H dy y → op dx dy = .ok d → ∀ Q : VK,
  (∀ v, Rep T F d v → Q v H) → (∀ p o, H p = none → F p = none → Rep T (upd F p o) d (.ref p) → Q (.ref p) (upd H p o)) → r x y H Q
/-- the result is new -/
def OpF (T : Tab) (r : R2) (op : D → D → Out D) : Prop := ∀ (F H : Hp) (x y : V) (dx dy d : D), Le F H → ShV T F H dx x → ShV T F H dy y → op dx dy = .ok d → ∀ Q : VK,
  (∀ p o, H p = none → F p = none → Sh T F (upd H p o) p d → Q (.ref p) (upd H p o)) → r x y H Q
/-- both parts' data -/
def s2 (op : D → D → Out D) (fa fb : SE) (r : List Sl) (m : List Cell) : Out (D × List Cell) := do
  let (x, m1) ← fa r m
  let (y, m2) ← fb r m1
  let dx ← view m2 x
  let dy ← view m2 y
  let d ← op dx dy
  .ok (d, m2)
def sOp (op : D → D → Out D) (fa fb : SE) : SE := sFz (s2 op fa fb)
theorem s2_ok {op : D → D → Out D} {fa fb : SE} {r : List Sl} {m m' : List Cell} {d : D} (e : s2 op fa fb r m = .ok (d, m')) :
    ∃ x m1 y dx dy, fa r m = .ok (x, m1) ∧ fb r m1 = .ok (y, m') ∧ view m' x = .ok dx ∧ view m' y = .ok dy ∧ op dx dy = .ok d := by
  obtain ⟨⟨x, m1⟩, e1, e⟩ := bind_ok e
  obtain ⟨⟨y, m2⟩, e2, e⟩ := bind_ok e
  obtain ⟨dx, e3, e⟩ := bind_ok e
  obtain ⟨dy, e4, e⟩ := bind_ok e
  obtain ⟨d', e5, e⟩ := bind_ok e
  cases e
  exact ⟨x, m1, y, dx, dy, e1, e2, e3, e4, e5⟩
theorem sOp_ok {op : D → D → Out D} {fa fb : SE} {r : List Sl} {m m' : List Cell} {s : Sl} (e : sOp op fa fb r m = .ok (s, m')) :
    ∃ d, s = .val d ∧ s2 op fa fb r m = .ok (d, m') := by
  obtain ⟨⟨d, m1⟩, e1, e⟩ := bind_ok e
  cases e
  exact ⟨d, rfl, e1⟩
theorem two_val {ta tb : TE} {fa fb : SE} {op : D → D → Out D} {rr : R2}
    (h2 : ∀ W σ H r m, Rl ⟨X.K, cl⟩ W σ H r m → ∀ s m', fa r m = .ok (s, m') → ∀ Q : VK, (∀ v W' H', Stp W H W' H' → Rl ⟨X.K, cl⟩ W' σ H' r m' → SlR ⟨X.K, cl⟩ W' s v → Q v H') → ta σ H Q)
    (g2 : ∀ W σ H r m, Rl ⟨X.K, cl⟩ W σ H r m → ∀ s m', fb r m = .ok (s, m') → ∀ Q : VK, (∀ v W' H', Stp W H W' H' → Rl ⟨X.K, cl⟩ W' σ H' r m' → SlR ⟨X.K, cl⟩ W' s v → Q v H') → tb σ H Q)
    (ho : OpD ⟨X.K, cl⟩ rr op) :
    ∀ W σ H r m, Rl ⟨X.K, cl⟩ W σ H r m → ∀ s m', sOp op fa fb r m = .ok (s, m') → ∀ Q : VK, (∀ v W' H', Stp W H W' H' → Rl ⟨X.K, cl⟩ W' σ H' r m' → SlR ⟨X.K, cl⟩ W' s v → Q v H') → tOp rr ta tb σ H Q := by
  intro W σ H r m R s m' e Q k
  obtain ⟨d, rfl, e'⟩ := sOp_ok e
  obtain ⟨x, m1, y, dx, dy, e1, e2, e3, e4, e5⟩ := s2_ok e'
  refine h2 W σ H r m R x m1 e1 _ fun v W1 H1 w1 R1 z1 => ?_
  refine g2 W1 σ H1 r m1 R1 y m' e2 _ fun u W2 H2 w2 R2 z2 => ?_
  refine ho W2.F H2 v u dx dy d R2.le (R2.view (z1.mono w2.w) e3) (R2.view z2 e4) e5 Q (fun z hz => k z W2 H2 (w1.trans w2) R2 hz) fun p o hp _ hz => ?_
  obtain ⟨R3, w3⟩ := R2.newFz (o := o) hp
  exact k _ _ _ ((w1.trans w2).trans w3) R3 hz
theorem de_op {a b : Expr} {op : Operator} {rr : R2} {o : D → D → Out D} {fa fb : SE} {pos : Pos} (hr : OpR X (binaryOp op) rr) (ho : OpD ⟨X.K, cl⟩ rr o) (ha : DE cl X a fa) (hb : DE cl X b fb) : DE cl X (.BinOp a op b pos) (sOp o fa fb) := by
  obtain ⟨t, h1, h2⟩ := ha.ex
  obtain ⟨u, g1, g2⟩ := hb.ex
  exact ⟨_, pe_op hr h1 g1, two_val h2 g2 ho⟩
theorem fe_op {a b : Expr} {op : Operator} {rr : R2} {o : D → D → Out D} {fa fb : SE} {pos : Pos} (hr : OpR X (binaryOp op) rr) (ho : OpF ⟨X.K, cl⟩ rr o) (ha : DE cl X a fa) (hb : DE cl X b fb) : FE cl X (.BinOp a op b pos) (s2 o fa fb) := by
  obtain ⟨t, h1, h2⟩ := ha.ex
  obtain ⟨u, g1, g2⟩ := hb.ex
  refine ⟨_, pe_op hr h1 g1, fun W σ H r m R d m' e Q k => ?_⟩
  obtain ⟨x, m1, y, dx, dy, e1, e2, e3, e4, e5⟩ := s2_ok e
  refine h2 W σ H r m R x m1 e1 _ fun v W1 H1 w1 R1 z1 => ?_
  refine g2 W1 σ H1 r m1 R1 y m' e2 _ fun u W2 H2 w2 R2 z2 => ?_
  refine ho W2.F H2 v u dx dy d R2.le (R2.view (z1.mono w2.w) e3) (R2.view z2 e4) e5 Q fun p o hp _ hz => ?_
  obtain ⟨R3, lo, w3⟩ := R2.new (o := o) hp
  have w := w1.trans w2
  exact k p W2 _ (w.trans w3) R3 (w.free hp) lo hz
theorem de_cmp {a b : Expr} {op : CmpOp} {rr : R2} {o : D → D → Out D} {fa fb : SE} {pos : Pos} (hr : OpR X (compareOp op) rr) (ho : OpD ⟨X.K, cl⟩ rr o) (ha : DE cl X a fa) (hb : DE cl X b fb) (hm : behindInMarks op b = false := by with_unfolding_all rfl) : DE cl X (.Compare a [op] [b] pos) (sOp o fa fb) := by
  obtain ⟨t, h1, h2⟩ := ha.ex
  obtain ⟨u, g1, g2⟩ := hb.ex
  exact ⟨_, pe_cmpR hr h1 g1 hm, two_val h2 g2 ho⟩
/-! ### tests -/
def bOf (f : SE) : SB := fun r m => do
  let (s, m1) ← f r m
  match s with
  | .val (.bl b) => .ok (b, m1)
  | _ => .bad
theorem bOf_ok {f : SE} {r : List Sl} {m m' : List Cell} {b : Bool} (e : bOf f r m = .ok (b, m')) : f r m = .ok (.val (.bl b), m') := by
  obtain ⟨⟨s, m1⟩, e1, e2⟩ := bind_ok e
  cases s with
  | un => cases e2
  | ref j => cases e2
  | val d => cases d <;> first | cases e2 | skip
             exact e1
theorem dt_cmp {a b : Expr} {op : CmpOp} {rr : R2} {o : D → D → Out D} {fa fb : SE} {pos : Pos} (hr : OpR X (compareOp op) rr) (ho : OpD ⟨X.K, cl⟩ rr o) (ha : DE cl X a fa) (hb : DE cl X b fb) (hm : behindInMarks op b = false := by with_unfolding_all rfl) : DT cl X (.Compare a [op] [b] pos) (bOf (sOp o fa fb)) := by
  obtain ⟨t, h1, h2⟩ := ha.ex
  obtain ⟨u, g1, g2⟩ := hb.ex
  refine ⟨_, pt_cmpR hr h1 g1 hm, fun W σ H r m R b m' e Q k => ?_⟩
  refine two_val h2 g2 ho W σ H r m R _ m' (bOf_ok e) _ fun v W1 H1 w1 R1 z1 => ?_
  exact ⟨b, z1, k W1 H1 w1 R1⟩
theorem DW.dt {e : Expr} {f : SB} (h : DW cl X e f) : DT cl X e f := by
  obtain ⟨t, h1, h2⟩ := h.ex
  exact ⟨t, h1.pt, h2⟩
/-- a value of any kind, by its truth -/
def dTru : D → Out Bool
  | .non => .ok false
  | .bl b => .ok b
  | .int i => .ok (i != 0)
  | .str x => if x.length ≤ sizeLine then .ok ((x.length : Int) != 0) else .bad
  | .lst xs => .ok (!xs.isEmpty)
  | .tup xs => .ok (!xs.isEmpty)
  | _ => .bad
def bTru (f : SE) : SB := fun r m => do
  let (s, m1) ← f r m
  let d ← view m1 s
  let b ← dTru d
  .ok (b, m1)
theorem Reps.length {T : Tab} {F : Hp} : ∀ {ds : List D} {vs : List V}, Reps T F ds vs → vs.length = ds.length
  | [], _, h => by cases h; rfl
  | _ :: _, _, h => by
    obtain ⟨v, r, rfl, _, t⟩ := h
    simp [Reps.length t]
theorem Reps.isEmpty {T : Tab} {F : Hp} {ds : List D} {vs : List V} (h : Reps T F ds vs) : vs.isEmpty = ds.isEmpty := by
  have := h.length
  cases ds <;> cases vs <;> simp_all
theorem ShV.lst {T : Tab} {F H : Hp} {ds : List D} {v : V} (le : Le F H) (h : ShV T F H (.lst ds) v) : ∃ p vs, v = .ref p ∧ Rd H p (.lst vs) ∧ Reps T F ds vs := by
  rcases h with h | ⟨p, rfl, vs, e, r⟩
  · obtain ⟨p, vs, e, s, r⟩ := h
    exact ⟨p, vs, e, le.rdL s, r⟩
  · exact ⟨p, vs, rfl, .inl e, r⟩
theorem ShV.scr {T : Tab} {F H : Hp} {ns : List Int} {v : V} (le : Le F H) (h : ShV T F H (.scr ns) v) : ∃ p, v = .ref p ∧ SqL T.K H p (ns.map V.int) := by
  rcases h with h | ⟨p, rfl, h⟩
  · obtain ⟨p, e, s⟩ := h
    exact ⟨p, e, le.sqL s⟩
  · exact h.elim
theorem ShV.tup {T : Tab} {F H : Hp} {ds : List D} {v : V} (le : Le F H) (h : ShV T F H (.tup ds) v) : ∃ p vs, v = .ref p ∧ SqT T.K H p vs ∧ Reps T F ds vs := by
  rcases h with h | ⟨p, rfl, h⟩
  · obtain ⟨p, vs, e, s, r⟩ := h
    exact ⟨p, vs, e, le.sqT s, r⟩
  · exact h.elim
theorem ShV.dct {T : Tab} {F H : Hp} {ks : List (Key × D)} {v : V} (le : Le F H) (h : ShV T F H (.dct ks) v) : ∃ p kvs, v = .ref p ∧ Rd H p (.dK kvs) ∧ RepK T F ks kvs := by
  rcases h with h | ⟨p, rfl, vs, e, r⟩
  · obtain ⟨p, vs, e, s, r⟩ := h
    rcases le _ _ s with q | ⟨_, ob, q⟩
    · exact ⟨p, vs, e, .inl q, r⟩
    · exact ⟨p, vs, e, .inr ⟨ob, q⟩, r⟩
  · exact ⟨p, vs, rfl, .inl e, r⟩
theorem ShV.non {T : Tab} {F H : Hp} {v : V} (h : ShV T F H .non v) : v = .non := by
  rcases h with h | ⟨p, rfl, h⟩
  · exact h
  · exact h.elim
theorem ShV.bl {T : Tab} {F H : Hp} {b : Bool} {v : V} (h : ShV T F H (.bl b) v) : v = .bl b := by
  rcases h with h | ⟨p, rfl, h⟩
  · exact h
  · exact h.elim
theorem ShV.int {T : Tab} {F H : Hp} {b : Int} {v : V} (h : ShV T F H (.int b) v) : v = .int b := by
  rcases h with h | ⟨p, rfl, h⟩
  · exact h
  · exact h.elim
theorem ShV.str {T : Tab} {F H : Hp} {b : Str} {v : V} (h : ShV T F H (.str b) v) : v = .str b := by
  rcases h with h | ⟨p, rfl, h⟩
  · exact h
  · exact h.elim
theorem dTru_ok {F H : Hp} {d : D} {v : V} {b : Bool} (le : Le F H) (h : ShV ⟨X.K, cl⟩ F H d v) (e : dTru d = .ok b) : TruV X.K v H b := by
  cases d with
  | non => cases h.non; cases e; rfl
  | bl c => cases h.bl; cases e; rfl
  | int i => cases h.int; cases e; rfl
  | str x =>
    cases h.str
    simp only [dTru] at e
    split at e
    · cases e; exact ⟨by assumption, rfl⟩
    · cases e
  | lst ds =>
    obtain ⟨p, vs, rfl, s, r⟩ := h.lst le
    cases e
    exact .inl ⟨vs, .inl s, by rw [r.isEmpty]⟩
  | tup ds =>
    obtain ⟨p, vs, rfl, s, r⟩ := h.tup le
    cases e
    exact .inr (.inl ⟨vs, s, by rw [r.isEmpty]⟩)
  | dct ks => cases e
  | ins c fs => cases e
  | scr ns => cases e
  | cls c => cases e
  | exc c fs => cases e
theorem dt_tru {e : Expr} {f : SE} (h : DE cl X e f) (he : ∀ whole, isTrue e X.env whole = (do let v ← whole; standAt e.pos; holding [v] (truthy v)) := by intro _; rfl) : DT cl X e (bTru f) := by
  obtain ⟨t, h1, h2⟩ := h.ex
  refine ⟨_, pt_truth h1 he, fun W σ H r m R b m' e Q k => ?_⟩
  obtain ⟨⟨s, m1⟩, e1, e⟩ := bind_ok e
  obtain ⟨d, e2, e⟩ := bind_ok e
  obtain ⟨b', e3, e⟩ := bind_ok e
  cases e
  refine h2 W σ H r m R s _ e1 _ fun v W1 H1 w1 R1 z1 => ?_
  exact ⟨b, dTru_ok R1.le (R1.view z1 e2) e3, k W1 H1 w1 R1⟩
def bAnd (f g : SB) : SB := fun r m => do
  let (b, m1) ← f r m
  if b then g r m1 else .ok (false, m1)
def bOr (f g : SB) : SB := fun r m => do
  let (b, m1) ← f r m
  if b then .ok (true, m1) else g r m1
def bNot (f : SB) : SB := fun r m => do
  let (b, m1) ← f r m
  .ok (!b, m1)
theorem dw_and1 {a : Expr} {pos : Pos} {f : SB} (h : DT cl X a f) : DW cl X (.BoolOp .And [a] pos) f := by
  obtain ⟨t, h1, h2⟩ := h.ex
  exact ⟨t, pw_and1 h1, h2⟩
theorem dw_or1 {a : Expr} {pos : Pos} {f : SB} (h : DT cl X a f) : DW cl X (.BoolOp .Or [a] pos) f := by
  obtain ⟨t, h1, h2⟩ := h.ex
  exact ⟨t, pw_or1 h1, h2⟩
theorem dw_and {a b : Expr} {rest : List Expr} {pos : Pos} {f g : SB} (h : DT cl X a f) (h' : DW cl X (.BoolOp .And (b :: rest) pos) g) : DW cl X (.BoolOp .And (a :: b :: rest) pos) (bAnd f g) := by
  obtain ⟨t, h1, h2⟩ := h.ex
  obtain ⟨u, g1, g2⟩ := h'.ex
  refine ⟨_, pw_and h1 g1, fun W σ H r m R b m' e Q k => ?_⟩
  obtain ⟨⟨c, m1⟩, e1, e⟩ := bind_ok e
  refine h2 W σ H r m R c m1 e1 _ fun W1 H1 w1 R1 => ?_
  cases c with
  | true =>
    rw [if_pos rfl]
    exact g2 W1 σ H1 r m1 R1 b m' e Q fun W2 H2 w2 R2 => k W2 H2 (w1.trans w2) R2
  | false =>
    rw [if_neg (by decide)]
    cases e
    exact k W1 H1 w1 R1
theorem dw_or {a b : Expr} {rest : List Expr} {pos : Pos} {f g : SB} (h : DT cl X a f) (h' : DW cl X (.BoolOp .Or (b :: rest) pos) g) : DW cl X (.BoolOp .Or (a :: b :: rest) pos) (bOr f g) := by
  obtain ⟨t, h1, h2⟩ := h.ex
  obtain ⟨u, g1, g2⟩ := h'.ex
  refine ⟨_, pw_or h1 g1, fun W σ H r m R b m' e Q k => ?_⟩
  obtain ⟨⟨c, m1⟩, e1, e⟩ := bind_ok e
  refine h2 W σ H r m R c m1 e1 _ fun W1 H1 w1 R1 => ?_
  cases c with
  | true =>
    rw [if_pos rfl]
    cases e
    exact k W1 H1 w1 R1
  | false =>
    rw [if_neg (by decide)]
    exact g2 W1 σ H1 r m1 R1 b m' e Q fun W2 H2 w2 R2 => k W2 H2 (w1.trans w2) R2
theorem dt_not {a : Expr} {pos : Pos} {f : SB} (h : DT cl X a f) : DT cl X (.UnaryOp .Not a pos) (bNot f) := by
  obtain ⟨t, h1, h2⟩ := h.ex
  refine ⟨_, pt_not h1, fun W σ H r m R b m' e Q k => ?_⟩
  obtain ⟨⟨c, m1⟩, e1, e⟩ := bind_ok e
  cases e
  exact h2 W σ H r m R c _ e1 _ fun W1 H1 w1 R1 => k W1 H1 w1 R1
/-! ### and, or, not as values -/
def sAnd (f g : SE) : SE := fun r m => do
  let (b, m1) ← bOf f r m
  if b then g r m1 else .ok (.val (.bl false), m1)
def sOr (f g : SE) : SE := fun r m => do
  let (b, m1) ← bOf f r m
  if b then .ok (.val (.bl true), m1) else g r m1
def sNot (f : SE) : SE := fun r m => do
  let (b, m1) ← bOf f r m
  .ok (.val (.bl (!b)), m1)
theorem de_one {op} {a : Expr} {pos : Pos} {f : SE} (h : DE cl X a f) : DE cl X (.BoolOp op [a] pos) f := by
  obtain ⟨t, h1, h2⟩ := h.ex
  exact ⟨t, pe_one h1, h2⟩
theorem de_and {a b : Expr} {rest : List Expr} {pos : Pos} {f g : SE} (h : DE cl X a f) (h' : DE cl X (.BoolOp .And (b :: rest) pos) g) : DE cl X (.BoolOp .And (a :: b :: rest) pos) (sAnd f g) := by
  obtain ⟨t, h1, h2⟩ := h.ex
  obtain ⟨u, g1, g2⟩ := h'.ex
  refine ⟨_, pe_and h1 g1, fun W σ H r m R b m' e Q k => ?_⟩
  obtain ⟨⟨c, m1⟩, e1, e⟩ := bind_ok e
  refine h2 W σ H r m R _ m1 (bOf_ok e1) _ fun v W1 H1 w1 R1 z1 => ⟨c, z1, ?_⟩
  cases c with
  | true =>
    rw [if_pos rfl]
    exact g2 W1 σ H1 r m1 R1 b m' e Q fun v W2 H2 w2 R2 => k v W2 H2 (w1.trans w2) R2
  | false =>
    rw [if_neg (by decide)]
    cases e
    exact k _ W1 H1 w1 R1 rfl
def sIf (c : SB) (f g : SE) : SE := fun r m => do
  let (b, m1) ← c r m
  if b then f r m1 else g r m1
theorem de_if {c a b : Expr} {pos : Pos} {fc : SB} {f g : SE} (hc : DT cl X c fc) (ha : DE cl X a f) (hb : DE cl X b g) : DE cl X (.IfExp c a b pos) (sIf fc f g) := by
  obtain ⟨tc, c1, c2⟩ := hc.ex
  obtain ⟨t, h1, h2⟩ := ha.ex
  obtain ⟨u, g1, g2⟩ := hb.ex
  refine ⟨_, pe_ifExp c1 h1 g1, fun W σ H r m R s m' e Q k => ?_⟩
  obtain ⟨⟨b, m1⟩, e1, e⟩ := bind_ok e
  refine c2 W σ H r m R b m1 e1 _ fun W1 H1 w1 R1 => ?_
  cases b with
  | true =>
    rw [if_pos rfl]
    exact h2 W1 σ H1 r m1 R1 s m' e Q fun v W2 H2 w2 R2 => k v W2 H2 (w1.trans w2) R2
  | false =>
    rw [if_neg (by decide)]
    exact g2 W1 σ H1 r m1 R1 s m' e Q fun v W2 H2 w2 R2 => k v W2 H2 (w1.trans w2) R2
/-! ### displays -/
/-- the data of all, frozen -/
def toDs : List Sl → List Cell → Out (List D × List Cell)
  | [], m => .ok ([], m)
  | s :: ss, m => do
    let (d, m1) ← toD s m
    let (ds, m2) ← toDs ss m1
    .ok (d :: ds, m2)
theorem Rl.toDs {T : Tab} {σ : St} {H : Hp} {r : List Sl} : ∀ {ss : List Sl} {vs : List V} {W : Wo} {m m' : List Cell} {ds : List D}, Rl T W σ H r m → SlRs T W ss vs → toDs ss m = .ok (ds, m') → ∃ W', Stp W H W' H ∧ Rl T W' σ H r m' ∧ Reps T W'.F ds vs
  | [], _, W, m, m', ds, R, h, e => by
    cases e
    exact ⟨W, Stp.refl _ _, R, h⟩
  | s :: ss, _, W, m, m', ds, R, ⟨v, rr, ev, h1, h2⟩, e => by
    obtain ⟨⟨d, m1⟩, e1, e⟩ := bind_ok e
    obtain ⟨⟨ds', m2⟩, e2, e⟩ := bind_ok e
    cases e
    obtain ⟨W1, w1, R1, z1⟩ := R.toD h1 e1
    obtain ⟨W2, w2, R2, z2⟩ := Rl.toDs R1 (h2.mono w1.w) e2
    exact ⟨W2, w1.trans w2, R2, v, rr, ev, Rep.mono w2.w.f _ _ z1, z2⟩
def sTup (f : SA) : SE := fun r m => do
  let (ss, m1) ← f r m
  let (ds, m2) ← toDs ss m1
  if ds.length ≤ sizeLine then .ok (.val (.tup ds), m2) else .bad
def fLst (f : SA) : SF := fun r m => do
  let (ss, m1) ← f r m
  let (ds, m2) ← toDs ss m1
  if ds.length ≤ sizeLine then .ok (.lst ds, m2) else .bad
theorem ite_ok {A : Type} {c : Prop} [Decidable c] {x y : A} (h : (if c then Out.ok x else Out.bad) = Out.ok y) : c ∧ x = y := by
  by_cases z : c
  · rw [if_pos z] at h; cases h; exact ⟨z, rfl⟩
  · rw [if_neg z] at h; cases h
theorem de_tup {es : List Expr} {x1} {pos : Pos} {f : SA} (h : DA cl X es f) : DE cl X (.Tuple es x1 pos) (sTup f) := by
  obtain ⟨t, h1, h2⟩ := h.ex
  refine ⟨_, pe_tup h1, fun W σ H r m R s m' e Q k => ?_⟩
  obtain ⟨⟨ss, m1⟩, e1, e⟩ := bind_ok e
  obtain ⟨⟨ds, m2⟩, e2, e⟩ := bind_ok e
  obtain ⟨hl, e⟩ := ite_ok e
  cases e
  refine h2 W σ H r m R ss m1 e1 _ fun vs W1 H1 w1 R1 z1 => ?_
  obtain ⟨W2, w2, R2, z2⟩ := R1.toDs z1 e2
  refine ⟨by rw [z2.length]; exact hl, fun p hp => ?_⟩
  obtain ⟨R3, w3⟩ := R2.newFz (o := .tup vs) hp
  refine k _ _ _ ((w1.trans w2).trans w3) R3 ?_
  show Rep _ _ _ _
  simp only [Rep]
  exact ⟨p, vs, rfl, .inl (.inl upd_same), Reps.mono w3.w.f _ _ z2⟩
theorem fe_lst {es : List Expr} {pos : Pos} {f : SA} (h : DA cl X es f) : FE cl X (.List es pos) (fLst f) := by
  obtain ⟨t, h1, h2⟩ := h.ex
  refine ⟨_, pe_lst h1, fun W σ H r m R s m' e Q k => ?_⟩
  obtain ⟨⟨ss, m1⟩, e1, e⟩ := bind_ok e
  obtain ⟨⟨ds, m2⟩, e2, e⟩ := bind_ok e
  obtain ⟨hl, e⟩ := ite_ok e
  cases e
  refine h2 W σ H r m R ss m1 e1 _ fun vs W1 H1 w1 R1 z1 => ?_
  obtain ⟨W2, w2, R2, z2⟩ := R1.toDs z1 e2
  refine ⟨by rw [z2.length]; exact hl, fun p hp => ?_⟩
  obtain ⟨R3, lo, w3⟩ := R2.new (o := .lst vs) hp
  have w := w1.trans w2
  exact k p W2 _ (w.trans w3) R3 (w.free hp) lo ⟨vs, upd_same, z2⟩
/-! ### a call of a built-in by values -/
def ShVs (T : Tab) (F H : Hp) : List D → List V → Prop
  | [], vs => vs = []
  | d :: ds, vs => ∃ v r, vs = v :: r ∧ ShV T F H d v ∧ ShVs T F H ds r
def views (m : List Cell) : List Sl → Out (List D)
  | [] => .ok []
  | s :: ss => do
    let d ← view m s
    let ds ← views m ss
    .ok (d :: ds)
theorem Rl.views {T : Tab} {W : Wo} {σ : St} {H : Hp} {r : List Sl} {m : List Cell} (R : Rl T W σ H r m) : ∀ {ss : List Sl} {vs : List V} {ds : List D}, SlRs T W ss vs → views m ss = .ok ds → ShVs T W.F H ds vs
  | [], _, _, h, e => by cases e; exact h
  | s :: ss, _, _, ⟨v, rr, ev, h1, h2⟩, e => by
    obtain ⟨d, e1, e⟩ := bind_ok e
    obtain ⟨ds', e2, e⟩ := bind_ok e
    cases e
    exact ⟨v, rr, ev, R.view h1 e1, R.views h2 e2⟩
def CaD (T : Tab) (r : List V → Hp → VK → Prop) (op : List D → Out D) : Prop := ∀ (F H : Hp) (xs : List V) (ds : List D) (d : D), Le F H → ShVs T F H ds xs → op ds = .ok d → ∀ Q : VK,
  (∀ v, Rep T F d v → Q v H) → (∀ p o, H p = none → F p = none → Rep T (upd F p o) d (.ref p) → Q (.ref p) (upd H p o)) → r xs H Q
def CaF (T : Tab) (r : List V → Hp → VK → Prop) (op : List D → Out D) : Prop := ∀ (F H : Hp) (xs : List V) (ds : List D) (d : D), Le F H → ShVs T F H ds xs → op ds = .ok d → ∀ Q : VK,
  (∀ p o, H p = none → F p = none → Sh T F (upd H p o) p d → Q (.ref p) (upd H p o)) → r xs H Q
def sN (op : List D → Out D) (f : SA) : SF := fun r m => do
  let (ss, m1) ← f r m
  let ds ← views m1 ss
  let d ← op ds
  .ok (d, m1)
theorem sN_ok {op : List D → Out D} {f : SA} {r : List Sl} {m m' : List Cell} {d : D} (e : sN op f r m = .ok (d, m')) : ∃ ss ds, f r m = .ok (ss, m') ∧ views m' ss = .ok ds ∧ op ds = .ok d := by
  obtain ⟨⟨ss, m1⟩, e1, e⟩ := bind_ok e
  obtain ⟨ds, e2, e⟩ := bind_ok e
  obtain ⟨d', e3, e⟩ := bind_ok e
  cases e
  exact ⟨ss, ds, e1, e2, e3⟩
theorem de_cb {e : Expr} {t : TA} {rr : List V → Hp → VK → Prop} {op : List D → Out D} {f : SA} (h1 : PE X e (tCB rr t)) (ho : CaD ⟨X.K, cl⟩ rr op)
    (h2 : ∀ W σ H r m, Rl ⟨X.K, cl⟩ W σ H r m → ∀ ss m', f r m = .ok (ss, m') → ∀ Q : List V → Hp → Prop, (∀ vs W' H', Stp W H W' H' → Rl ⟨X.K, cl⟩ W' σ H' r m' → SlRs ⟨X.K, cl⟩ W' ss vs → Q vs H') → t σ H Q) : DE cl X e (sFz (sN op f)) := by
  refine ⟨_, h1, fun W σ H r m R s m' e Q k => ?_⟩
  obtain ⟨⟨d, m1⟩, e1, e⟩ := bind_ok e
  cases e
  obtain ⟨ss, ds, e1, e2, e3⟩ := sN_ok e1
  refine h2 W σ H r m R ss _ e1 _ fun vs W1 H1 w1 R1 z1 => ?_
  refine ho W1.F H1 vs ds d R1.le (R1.views z1 e2) e3 Q (fun v hv => k v W1 H1 w1 R1 hv) fun p o hp _ hz => ?_
  obtain ⟨R3, w3⟩ := R1.newFz (o := o) hp
  exact k _ _ _ (w1.trans w3) R3 hz
theorem fe_cb {e : Expr} {t : TA} {rr : List V → Hp → VK → Prop} {op : List D → Out D} {f : SA} (h1 : PE X e (tCB rr t)) (ho : CaF ⟨X.K, cl⟩ rr op)
    (h2 : ∀ W σ H r m, Rl ⟨X.K, cl⟩ W σ H r m → ∀ ss m', f r m = .ok (ss, m') → ∀ Q : List V → Hp → Prop, (∀ vs W' H', Stp W H W' H' → Rl ⟨X.K, cl⟩ W' σ H' r m' → SlRs ⟨X.K, cl⟩ W' ss vs → Q vs H') → t σ H Q) : FE cl X e (sN op f) := by
  refine ⟨_, h1, fun W σ H r m R d m' e Q k => ?_⟩
  obtain ⟨ss, ds, e1, e2, e3⟩ := sN_ok e
  refine h2 W σ H r m R ss _ e1 _ fun vs W1 H1 w1 R1 z1 => ?_
  refine ho W1.F H1 vs ds d R1.le (R1.views z1 e2) e3 Q fun p o hp _ hz => ?_
  obtain ⟨R3, lo, w3⟩ := R1.new (o := o) hp
  exact k p W1 _ (w1.trans w3) R3 (w1.free hp) lo hz
section
variable {x : Str} {p pos : Pos} {e : Expr} {es : List Expr} {id Ty : String} {rr : List V → Hp → VK → Prop} {op : List D → Out D} {f : SA}
theorem de_callB (hc : CallR X (.builtin id) rr) (ho : CaD ⟨X.K, cl⟩ rr op) (hg : Gl X x) (hm : X.mg x = none) (hv : bootBuiltins x = some (.builtin id)) (ha : DA cl X (e :: es) f) (hn : x ≠ "__name__" := by decide) (hdb : (x == ("__debug__" : Str)) = false := by decide)
    (he : starEach (e :: es) X.env = (false, eval e X.env) :: starEach es X.env := by rfl) (hpl : (backTo pos (starEach es X.env)).any (·.1) = false := by rfl) : DE cl X (.Call (.Name x p) (e :: es) [] pos) (sFz (sN op f)) := by
  obtain ⟨t, h1, h2⟩ := ha.ex
  exact de_cb (pe_callB hc hg hm hv h1 hn hdb he hpl) ho h2
theorem de_callTy (hc : CallR X (.type Ty) rr) (ho : CaD ⟨X.K, cl⟩ rr op) (hg : Gl X x) (hm : X.mg x = none) (hv : bootBuiltins x = some (.type Ty)) (ha : DA cl X (e :: es) f) (hn : x ≠ "__name__" := by decide) (hdb : (x == ("__debug__" : Str)) = false := by decide)
    (he : starEach (e :: es) X.env = (false, eval e X.env) :: starEach es X.env := by rfl) (hpl : (backTo pos (starEach es X.env)).any (·.1) = false := by rfl) : DE cl X (.Call (.Name x p) (e :: es) [] pos) (sFz (sN op f)) := by
  obtain ⟨t, h1, h2⟩ := ha.ex
  exact de_cb (pe_callTy hc hg hm hv h1 hn hdb he hpl) ho h2
theorem fe_callTy (hc : CallR X (.type Ty) rr) (ho : CaF ⟨X.K, cl⟩ rr op) (hg : Gl X x) (hm : X.mg x = none) (hv : bootBuiltins x = some (.type Ty)) (ha : DA cl X (e :: es) f) (hn : x ≠ "__name__" := by decide) (hdb : (x == ("__debug__" : Str)) = false := by decide)
    (he : starEach (e :: es) X.env = (false, eval e X.env) :: starEach es X.env := by rfl) (hpl : (backTo pos (starEach es X.env)).any (·.1) = false := by rfl) : FE cl X (.Call (.Name x p) (e :: es) [] pos) (sN op f) := by
  obtain ⟨t, h1, h2⟩ := ha.ex
  exact fe_cb (pe_callTy hc hg hm hv h1 hn hdb he hpl) ho h2
end
/-! ### a method of a built-in type -/
def MtD (T : Tab) (Ty : String) (r : V → List V → Hp → VK → Prop) (op : D → List D → Out D) : Prop := ∀ (F H : Hp) (x : V) (xs : List V) (dx : D) (ds : List D) (d : D), Le F H → ShV T F H dx x → ShVs T F H ds xs → op dx ds = .ok d → ∀ Q : VK,
  (∀ v, Rep T F d v → Q v H) → (∀ p o, H p = none → F p = none → Rep T (upd F p o) d (.ref p) → Q (.ref p) (upd H p o)) → r x xs H Q
def MtF (T : Tab) (Ty : String) (r : V → List V → Hp → VK → Prop) (op : D → List D → Out D) : Prop := ∀ (F H : Hp) (x : V) (xs : List V) (dx : D) (ds : List D) (d : D), Le F H → ShV T F H dx x → ShVs T F H ds xs → op dx ds = .ok d → ∀ Q : VK,
  (∀ p o, H p = none → F p = none → Sh T F (upd H p o) p d → Q (.ref p) (upd H p o)) → r x xs H Q
def isTy (Ty : String) : D → Bool
  | .str _ => Ty == "str"
  | .lst _ => Ty == "list"
  | _ => false
theorem isTy_ok {F H : Hp} {d : D} {v : V} {Ty : String} (le : Le F H) (h : ShV ⟨X.K, cl⟩ F H d v) (e : isTy Ty d = true) : tyV X.K Ty v H := by
  cases d with
  | str x => cases h.str; exact eq_of_beq e
  | lst ds =>
    obtain ⟨p, vs, rfl, s, r⟩ := h.lst le
    exact .inl ⟨eq_of_beq e, vs, .inl s⟩
  | _ => cases e
def sMt (Ty : String) (op : D → List D → Out D) (fo : SE) (f : SA) : SF := fun r m => do
  let (o, m1) ← fo r m
  let d0 ← view m1 o
  if isTy Ty d0 then
    let (ss, m2) ← f r m1
    let dx ← view m2 o
    let ds ← views m2 ss
    let d ← op dx ds
    .ok (d, m2)
  else .bad
theorem sMt_ok {Ty : String} {op : D → List D → Out D} {fo : SE} {f : SA} {r : List Sl} {m m' : List Cell} {d : D} (e : sMt Ty op fo f r m = .ok (d, m')) :
    ∃ o m1 d0 ss dx ds, fo r m = .ok (o, m1) ∧ view m1 o = .ok d0 ∧ isTy Ty d0 = true ∧ f r m1 = .ok (ss, m') ∧ view m' o = .ok dx ∧ views m' ss = .ok ds ∧ op dx ds = .ok d := by
  obtain ⟨⟨o, m1⟩, e1, e⟩ := bind_ok e
  obtain ⟨d0, e2, e⟩ := bind_ok e
  by_cases z : isTy Ty d0 = true
  · simp only [z, if_true] at e
    obtain ⟨⟨ss, m2⟩, e3, e⟩ := bind_ok e
    obtain ⟨dx, e4, e⟩ := bind_ok e
    obtain ⟨ds, e5, e⟩ := bind_ok e
    obtain ⟨d', e6, e⟩ := bind_ok e
    cases e
    exact ⟨o, m1, d0, ss, dx, ds, e1, e2, z, e3, e4, e5, e6⟩
  · simp [z] at e
section
variable {o e : Expr} {es : List Expr} {name : Str} {apos cpos : Pos} {Ty id : String} {rr : V → List V → Hp → VK → Prop} {op : D → List D → Out D} {fo : SE} {f : SA}
theorem de_bm (pa : PlainAttrs Ty) (slot : Slot Ty name id) (hty : typeOf (.builtin id) = pure (.type "method_descriptor")) (hm : MtR X id rr) (hd : MtD ⟨X.K, cl⟩ Ty rr op) (ho : DE cl X o fo) (ha : DA cl X (e :: es) f)
    (hbase : attributeBase o name X.env (eval o X.env) = eval o X.env := by rfl)
    (hfew : ((backTo cpos (starEach (e :: es) X.env)).all (fun x => !x.1) && (backToKw cpos (keywordEach [] X.env)).all (fun x => x.1.isSome)
      && decide ((e :: es).length + ([] : List Keyword).length + (if ([] : List Keyword).isEmpty then 0 else 1) < 30)) = true := by rfl)
    (hline : (apos.endLine == cpos.line) = true := by rfl) (hs : starEach (e :: es) X.env = (false, eval e X.env) :: starEach es X.env := by rfl) (hplain : (backTo cpos (starEach es X.env)).any (·.1) = false := by rfl) :
    DE cl X (.Call (.Attribute o name apos) (e :: es) [] cpos) (sFz (sMt Ty op fo f)) := by
  obtain ⟨t, h1, h2⟩ := ho.ex
  obtain ⟨u, g1, g2⟩ := ha.ex
  refine ⟨_, pe_bm pa slot hty hm h1 g1 hbase hfew hline hs hplain, fun W σ H r m R s m' e Q k => ?_⟩
  obtain ⟨⟨d, m1⟩, e1, e⟩ := bind_ok e
  cases e
  obtain ⟨o', m1, d0, ss, dx, ds, q1, q2, q3, q4, q5, q6, q7⟩ := sMt_ok e1
  refine h2 W σ H r m R o' m1 q1 _ fun v W1 H1 w1 R1 z1 => ⟨isTy_ok R1.le (R1.view z1 q2) q3, ?_⟩
  refine g2 W1 σ H1 r m1 R1 ss _ q4 _ fun vs W2 H2 w2 R2 z2 => ?_
  refine hd W2.F H2 v vs dx ds d R2.le (R2.view (z1.mono w2.w) q5) (R2.views z2 q6) q7 Q (fun z hz => k z W2 H2 (w1.trans w2) R2 hz) fun p o hp _ hz => ?_
  obtain ⟨R3, w3⟩ := R2.newFz (o := o) hp
  exact k _ _ _ ((w1.trans w2).trans w3) R3 hz
theorem fe_bm (pa : PlainAttrs Ty) (slot : Slot Ty name id) (hty : typeOf (.builtin id) = pure (.type "method_descriptor")) (hm : MtR X id rr) (hd : MtF ⟨X.K, cl⟩ Ty rr op) (ho : DE cl X o fo) (ha : DA cl X (e :: es) f)
    (hbase : attributeBase o name X.env (eval o X.env) = eval o X.env := by rfl)
    (hfew : ((backTo cpos (starEach (e :: es) X.env)).all (fun x => !x.1) && (backToKw cpos (keywordEach [] X.env)).all (fun x => x.1.isSome)
      && decide ((e :: es).length + ([] : List Keyword).length + (if ([] : List Keyword).isEmpty then 0 else 1) < 30)) = true := by rfl)
    (hline : (apos.endLine == cpos.line) = true := by rfl) (hs : starEach (e :: es) X.env = (false, eval e X.env) :: starEach es X.env := by rfl) (hplain : (backTo cpos (starEach es X.env)).any (·.1) = false := by rfl) :
    FE cl X (.Call (.Attribute o name apos) (e :: es) [] cpos) (sMt Ty op fo f) := by
  obtain ⟨t, h1, h2⟩ := ho.ex
  obtain ⟨u, g1, g2⟩ := ha.ex
  refine ⟨_, pe_bm pa slot hty hm h1 g1 hbase hfew hline hs hplain, fun W σ H r m R d m' e Q k => ?_⟩
  obtain ⟨o', m1, d0, ss, dx, ds, q1, q2, q3, q4, q5, q6, q7⟩ := sMt_ok e
  refine h2 W σ H r m R o' m1 q1 _ fun v W1 H1 w1 R1 z1 => ⟨isTy_ok R1.le (R1.view z1 q2) q3, ?_⟩
  refine g2 W1 σ H1 r m1 R1 ss _ q4 _ fun vs W2 H2 w2 R2 z2 => ?_
  refine hd W2.F H2 v vs dx ds d R2.le (R2.view (z1.mono w2.w) q5) (R2.views z2 q6) q7 Q fun p o hp _ hz => ?_
  obtain ⟨R3, lo, w3⟩ := R2.new (o := o) hp
  have w := w1.trans w2
  exact k p W2 _ (w.trans w3) R3 (w.free hp) lo hz
end
end
end Nv
set_option Elab.async false
set_option linter.all false
set_option maxRecDepth 100000
set_option maxHeartbeats 4000000
namespace Nv
open PySem L2
section
variable {cl : Cl} {X : Cx}
/-! ### blocks, small statements -/
def sNx : SS := fun r m => .ok (.nx, r, m)
def sSeq (f g : SS) : SS := fun r m => do
  let (fl, r1, m1) ← f r m
  match fl with
  | .nx => g r1 m1
  | .bk => .ok (.bk, r1, m1)
  | .ct => .ok (.ct, r1, m1)
  | .rt d => .ok (.rt d, r1, m1)
theorem dss_nil : DSs cl X [] sNx := ⟨_, pss_nil, fun W σ H r m R fl r' m' e Dn k => by cases e; exact k W σ H (Stp.refl _ _) R⟩
theorem dss_one {st : Stmt} {f : SS} (h : DS cl X st f) : DSs cl X [st] f := by
  obtain ⟨t, h1, h2⟩ := h.ex
  exact ⟨t, pss_one h1, h2⟩
theorem dss_cons {st : Stmt} {rest : List Stmt} {f g : SS} (h : DS cl X st f) (h' : DSs cl X rest g) : DSs cl X (st :: rest) (sSeq f g) := by
  obtain ⟨t, h1, h2⟩ := h.ex
  obtain ⟨u, g1, g2⟩ := h'.ex
  refine ⟨_, pss_cons h1 g1, fun W σ H r m R fl r' m' e Dn k => ?_⟩
  obtain ⟨⟨fl1, r1, m1⟩, e1, e⟩ := bind_ok e
  refine h2 W σ H r m R fl1 r1 m1 e1 _ fun W1 σ1 H1 w1 R1 => ?_
  cases fl1 with
  | nx => exact g2 W1 σ1 H1 r1 m1 R1 fl r' m' e Dn fun W2 σ2 H2 w2 R2 => k W2 σ2 H2 (w1.trans w2) R2
  | bk => cases e; exact k W1 σ1 H1 w1 R1
  | ct => cases e; exact k W1 σ1 H1 w1 R1
  | rt d => cases e; exact k W1 σ1 H1 w1 R1
def sDrop (f : SE) : SS := fun r m => do
  let (_, m1) ← f r m
  .ok (.nx, r, m1)
def sRet (f : SE) : SS := fun r m => do
  let (s, m1) ← f r m
  let (d, m2) ← toD s m1
  .ok (.rt d, r, m2)
theorem ds_ret {e : Expr} {pos : Pos} {f : SE} (h : DE cl X e f) : DS cl X (.Return (some e) pos) (sRet f) := by
  obtain ⟨t, h1, h2⟩ := h.ex
  refine ⟨_, ps_ret h1, fun W σ H r m R fl r' m' e Dn k => ?_⟩
  obtain ⟨⟨s, m1⟩, e1, e⟩ := bind_ok e
  obtain ⟨⟨d, m2⟩, e2, e⟩ := bind_ok e
  cases e
  refine h2 W σ H r m R s _ e1 _ fun v W1 H1 w1 R1 z1 => ?_
  obtain ⟨W2, w2, R2, z2⟩ := R1.toD z1 e2
  exact k W2 σ H1 (w1.trans w2) R2 v z2
def sIfS (c : SB) (f g : SS) : SS := fun r m => do
  let (b, m1) ← c r m
  if b then f r m1 else g r m1
theorem ds_if {c : Expr} {a b : List Stmt} {pos : Pos} {fc : SB} {f g : SS} (hc : DT cl X c fc) (ha : DSs cl X a f) (hb : DSs cl X b g) : DS cl X (.If c a b pos) (sIfS fc f g) := by
  obtain ⟨tc, c1, c2⟩ := hc.ex
  obtain ⟨t, h1, h2⟩ := ha.ex
  obtain ⟨u, g1, g2⟩ := hb.ex
  refine ⟨_, ps_if c1 h1 g1, fun W σ H r m R fl r' m' e Dn k => ?_⟩
  obtain ⟨⟨b, m1⟩, e1, e⟩ := bind_ok e
  refine c2 W σ H r m R b m1 e1 _ fun W1 H1 w1 R1 => ?_
  cases b with
  | true =>
    rw [if_pos rfl]
    exact h2 W1 σ H1 r m1 R1 fl r' m' e Dn fun W2 σ2 H2 w2 R2 => k W2 σ2 H2 (w1.trans w2) R2
  | false =>
    rw [if_neg (by decide)]
    exact g2 W1 σ H1 r m1 R1 fl r' m' e Dn fun W2 σ2 H2 w2 R2 => k W2 σ2 H2 (w1.trans w2) R2
/-! ### targets -/
abbrev SG := Sl → List Sl → List Cell → Out (List Sl)
structure DG (cl : Cl) (X : Cx) (tg : Expr) (vs : List Nat) (g : SG) : Prop where
  ex : ∃ t, PG X tg t ∧ ∀ W σ H r m v s, Rl ⟨X.K, cl⟩ W σ H r m → SlR ⟨X.K, cl⟩ W s v → ∀ r', g s r m = .ok r' → ∀ Q : St → Hp → Prop,
    (∀ σ', Rl ⟨X.K, cl⟩ W σ' H r' m → (∀ i, i ∉ vs → σ'[i]? = σ[i]?) → σ'.length = σ.length → Q σ' H) → t v σ H Q
def gN (i : Nat) : SG := fun s r _ => .ok (r.set i s)
theorem dg_name {i : Nat} {x : Str} {pos : Pos} (hN : X.N.Nodup) (hi : X.N[i]? = some x) (hx : Loc X.env.scope x) (hf : X.fn x = true ∨ X.env.scope.names.lookup x = some .local := by first | exact .inl rfl | exact .inr rfl | assumption) : DG cl X (.Name x pos) [i] (gN i) := by
  refine ⟨_, pg_name hN hi hx hf, fun W σ H r m v s R z r' e Q k => ?_⟩
  cases e
  exact k _ (R.set z) (fun j hj => List.getElem?_set_ne (fun q => hj (by simp [q]))) (by simp)
/-! ### assignments -/
def sSet (i : Nat) (f : SE) : SS := fun r m => do
  let (s, m1) ← f r m
  .ok (.nx, r.set i s, m1)
theorem ds_set {i : Nat} {x : Str} {e : Expr} {pos pos' : Pos} {f : SE} (hN : X.N.Nodup) (hi : X.N[i]? = some x) (hx : Loc X.env.scope x) (he : DE cl X e f) (hs : swapsWith e (some (.Name x pos')) pos.line X.env = pure false := by rfl) (hf : X.fn x = true ∨ X.env.scope.names.lookup x = some .local := by first | exact .inl rfl | exact .inr rfl | assumption) :
    DS cl X (.Assign [.Name x pos'] e pos) (sSet i f) := by
  obtain ⟨t, h1, h2⟩ := he.ex
  refine ⟨_, ps_set hN hi hx h1 hs hf, fun W σ H r m R fl r' m' e Dn k => ?_⟩
  obtain ⟨⟨s, m1⟩, e1, e⟩ := bind_ok e
  cases e
  exact h2 W σ H r m R s _ e1 _ fun v W1 H1 w1 R1 z1 => k W1 _ H1 w1 (R1.set z1)
def sAsg (g : SG) (f : SE) : SS := fun r m => do
  let (s, m1) ← f r m
  let r1 ← g s r m1
  .ok (.nx, r1, m1)
/-! ### what is walked -/
def Kp (F H0 H : Hp) : Prop := ∀ b o, F b ≠ none → H0 b = some o → H b = some o
structure ItOk (T : Tab) (J : It) (F H0 : Hp) (ds : List D) : Prop where
  go : ∀ i H F', i < ds.length → Same F F' → Le F' H → Kp F H0 H → J.go i H
  stop : ∀ H F', Same F F' → Le F' H → Kp F H0 H → J.stop ds.length H
  yld : ∀ i d H F' x H', ds[i]? = some d → Same F F' → Le F' H → J.yld i H x H' → (H' = H ∧ Rep T F' d x) ∨ ∃ p o, H p = none ∧ H' = upd H p o ∧ x = .ref p ∧ (F' p = none → Rep T (upd F' p o) d (.ref p))
abbrev SI := List Sl → List Cell → Out (List D × List Cell)
structure DI (cl : Cl) (X : Cx) (tg it : Expr) (f : SI) : Prop where
  ex : ∃ wi, PI X tg it wi ∧ ∀ W σ H r m, Rl ⟨X.K, cl⟩ W σ H r m → ∀ ds m', f r m = .ok (ds, m') → ∀ R : It → Hp → Prop,
    (∀ J W' H', Stp W H W' H' → Rl ⟨X.K, cl⟩ W' σ H' r m' → ItOk ⟨X.K, cl⟩ J W'.F H' ds → R J H') → wi σ H R
/-- a list, a tuple, a text -/
def iAny (K : PySem.W.Frag) (tl : TE) : TI := fun σ H R => tl σ H fun x H1 => (∃ a, x = .ref a ∧ (∃ xs, SqL K H1 a xs) ∧ R (Itl K a) H1) ∨ (∃ a, x = .ref a ∧ (∃ xs, SqT K H1 a xs) ∧ R (Itt K a) H1) ∨ ∃ z, x = .str z ∧ R (Its z) H1
theorem pi_any {tg l : Expr} {tl : TE} (hl : PE X l tl) : PI X tg l (iAny X.K tl) := by
  refine ⟨fun pins s σ H R I h => ?_⟩
  refine thn (hl.run pins s σ H _ I h) fun v s1 ⟨x, H1, I1, r1, q1⟩ => ?_
  rcases q1 with ⟨a, e, ⟨xs, hq⟩, q⟩ | ⟨a, e, ⟨xs, hq⟩, q⟩ | ⟨z, e, q⟩
  · subst e
    cases r1
    obtain ⟨its, rv, p, hz⟩ := I1.list hq
    refine wpAny_pyIter_list p.isList ?_
    refine ⟨s1.heap.objs.size, [s1.heap.objs.size], _, _, H1, rfl, I1.kept (t' := s1.toks) fun b o e => Heap.get?_push_of_some _ e, turn_list a _, ⟨_, Heap.get?_push_size _ rfl, rfl, rfl⟩, fun b hb => ?_, q⟩
    have e : b = s1.heap.objs.size := by simpa using hb
    subst e
    exact I1.fpOk (Nat.le_refl _) (I1.hok.fresh (Nat.le_refl _))
  · subst e
    cases r1
    obtain ⟨its, rv, p, hz⟩ := I1.tuple hq
    refine wpAny_pyIter_tuple (show s1.heap.IsTuple a its.toArray from p) ?_
    refine ⟨s1.heap.objs.size, [s1.heap.objs.size], _, _, H1, rfl, I1.kept (t' := s1.toks) fun b o e => Heap.get?_push_of_some _ e, turn_tuple a _, ⟨_, Heap.get?_push_size _ rfl, rfl, rfl⟩, fun b hb => ?_, q⟩
    have e : b = s1.heap.objs.size := by simpa using hb
    subst e
    exact I1.fpOk (Nat.le_refl _) (I1.hok.fresh (Nat.le_refl _))
  · subst e
    obtain ⟨t, rfl⟩ := r1
    cases ha : z.cps.all (· < 128)
    · exact wpAny_pyIter_wide ha (pi_one (tk := s1.toks) I1 _ (turn_str _ z t "str_iterator" (.inr rfl)) ⟨_, Heap.get?_push_size _ rfl, rfl, rfl⟩ q)
    · exact wpAny_pyIter_ascii ha (pi_one (tk := s1.toks) I1 _ (turn_str _ z t "str_ascii_iterator" (.inl rfl)) ⟨_, Heap.get?_push_size _ rfl, rfl, rfl⟩ q)
/-- what a walk over it yields -/
def items : D → Out (List D)
  | .lst ds => .ok ds
  | .tup ds => .ok ds
  | .str x => .ok (x.cps.toList.map fun c => .str ⟨#[c]⟩)
  | _ => .bad
theorem Reps.get {T : Tab} {F : Hp} : ∀ {ds : List D} {vs : List V} {i : Nat} {d : D}, Reps T F ds vs → ds[i]? = some d → ∃ v, vs[i]? = some v ∧ Rep T F d v
  | [], _, _, _, _, e => by simp at e
  | _ :: _, _, 0, _, h, e => by
    obtain ⟨v, r, rfl, z, _⟩ := h
    simp at e; subst e
    exact ⟨v, rfl, z⟩
  | _ :: _, _, i + 1, _, h, e => by
    obtain ⟨v, r, rfl, _, t⟩ := h
    obtain ⟨u, e1, z⟩ := Reps.get (i := i) t (by simpa using e)
    exact ⟨u, by simpa using e1, z⟩
def iOf (f : SE) : SI := fun r m => do
  let (s, m1) ← f r m
  let (d, m2) ← toD s m1
  let ds ← items d
  .ok (ds, m2)
theorem ItOk.list {K : PySem.W.Frag} {F H0 : Hp} {a : Addr} {ds : List D} {vs : List V} (s : SqL K F a vs) (r : Reps ⟨K, cl⟩ F ds vs) : ItOk ⟨K, cl⟩ (Itl K a) F H0 ds := by
  refine ⟨fun i H F' hi hs hl _ => ?_, fun H F' hs hl _ => ?_, fun i d H F' x H' hi hs hl y => ?_⟩
  · have hi' : i < vs.length := by rw [r.length]; exact hi
    exact ⟨vs, vs[i], hl.sqL (hs.seq s), by simp [hi']⟩
  · exact ⟨vs, hl.sqL (hs.seq s), by rw [r.length]; exact Nat.le_refl _⟩
  · obtain ⟨v, e, z⟩ := r.get hi
    obtain ⟨e1, e2⟩ := y
    have := e2 vs (hl.sqL (hs.seq s))
    rw [e] at this; cases this
    exact .inl ⟨e1, Rep.mono hs _ _ z⟩
theorem ItOk.tup {K : PySem.W.Frag} {F H0 : Hp} {a : Addr} {ds : List D} {vs : List V} (s : SqT K F a vs) (r : Reps ⟨K, cl⟩ F ds vs) : ItOk ⟨K, cl⟩ (Itt K a) F H0 ds := by
  refine ⟨fun i H F' hi hs hl _ => ?_, fun H F' hs hl _ => ?_, fun i d H F' x H' hi hs hl y => ?_⟩
  · have hi' : i < vs.length := by rw [r.length]; exact hi
    exact ⟨vs, vs[i], hl.sqT (Same.sqT hs s), by simp [hi']⟩
  · exact ⟨vs, hl.sqT (Same.sqT hs s), by rw [r.length]; exact Nat.le_refl _⟩
  · obtain ⟨v, e, z⟩ := r.get hi
    obtain ⟨e1, e2⟩ := y
    have := e2 vs (hl.sqT (Same.sqT hs s))
    rw [e] at this; cases this
    exact .inl ⟨e1, Rep.mono hs _ _ z⟩
theorem ItOk.str {K : PySem.W.Frag} {F H0 : Hp} {z : Str} : ItOk ⟨K, cl⟩ (Its z) F H0 (z.cps.toList.map fun c => .str ⟨#[c]⟩) := by
  refine ⟨fun i H F' hi hs hl _ => ?_, fun H F' hs hl _ => ?_, fun i d H F' x H' hi hs hl y => ?_⟩
  · show i < z.cps.size
    simpa using hi
  · show z.cps.size ≤ _
    simp
  · obtain ⟨e1, c, e2, rfl⟩ := y
    rw [List.getElem?_map, Array.getElem?_toList, e2] at hi
    cases hi
    exact .inl ⟨e1, rfl⟩
theorem di_any {tg e : Expr} {f : SE} (h : DE cl X e f) : DI cl X tg e (iOf f) := by
  obtain ⟨t, h1, h2⟩ := h.ex
  refine ⟨_, pi_any h1, fun W σ H r m R ds m' e Rr k => ?_⟩
  obtain ⟨⟨s, m1⟩, e1, e⟩ := bind_ok e
  obtain ⟨⟨d, m2⟩, e2, e⟩ := bind_ok e
  obtain ⟨ds', e3, e⟩ := bind_ok e
  cases e
  refine h2 W σ H r m R s _ e1 _ fun v W1 H1 w1 R1 z1 => ?_
  obtain ⟨W2, w2, R2, z2⟩ := R1.toD z1 e2
  have w := w1.trans w2
  cases d with
  | lst xs =>
    cases e3
    simp only [Rep] at z2
    obtain ⟨a, vs, rfl, sq, rs⟩ := z2
    exact .inl ⟨a, rfl, ⟨vs, .inl (R2.le.rdL sq)⟩, k _ W2 H1 w R2 (ItOk.list (.inl sq) rs)⟩
  | tup xs =>
    cases e3
    simp only [Rep] at z2
    obtain ⟨a, vs, rfl, sq, rs⟩ := z2
    exact .inr (.inl ⟨a, rfl, ⟨vs, R2.le.sqT sq⟩, k _ W2 H1 w R2 (ItOk.tup sq rs)⟩)
  | str x =>
    cases e3
    simp only [Rep] at z2
    subst z2
    exact .inr (.inr ⟨x, rfl, k _ W2 H1 w R2 ItOk.str⟩)
  | _ => cases e3
/-- range(n), range(a, b) -/
def rangeD (lo : Int) (n : Nat) : List D := (List.range n).map fun (i : Nat) => .int (lo + i)
theorem ItOk.range {K : PySem.W.Frag} {F H0 : Hp} {lo : Int} {n : Nat} : ItOk ⟨K, cl⟩ (Itr lo n) F H0 (rangeD lo n) := by
  refine ⟨fun i H F' hi hs hl _ => ?_, fun H F' hs hl _ => ?_, fun i d H F' x H' hi hs hl y => ?_⟩
  · show i < n
    simpa [rangeD] using hi
  · show n ≤ _
    simp [rangeD]
  · obtain ⟨e1, e2⟩ := y
    have hin : i < n := by have := lt_of_get hi; simpa [rangeD] using this
    rw [rangeD, List.getElem?_map, List.getElem?_range hin] at hi
    cases hi
    exact .inl ⟨e1, e2⟩
def iRange1 (f : SA) : SI := fun r m => do
  let (ss, m1) ← f r m
  let ds ← views m1 ss
  match ds with
  | [.int j] => if -(2 ^ 62) ≤ j ∧ j < 2 ^ 62 then .ok (rangeD 0 j.toNat, m1) else .bad
  | _ => .bad
def iRange2 (f : SA) : SI := fun r m => do
  let (ss, m1) ← f r m
  let ds ← views m1 ss
  match ds with
  | [.int i, .int j] => if -(2 ^ 62) ≤ i ∧ i < 2 ^ 62 ∧ -(2 ^ 62) ≤ j ∧ j < 2 ^ 62 then .ok (rangeD i (j - i).toNat, m1) else .bad
  | _ => .bad
theorem ShVs.int1 {T : Tab} {F H : Hp} {j : Int} {vs : List V} (h : ShVs T F H [.int j] vs) : vs = [.int j] := by
  obtain ⟨v, r, rfl, z, e⟩ := h
  cases e; cases z.int; rfl
theorem di_range1 {tg a : Expr} {p pos : Pos} {f : SA} (hg : Gl X "range") (hm : X.mg "range" = none) (ha : DA cl X [a] f) (hs : starEach [a] X.env = [(false, eval a X.env)] := by rfl) : DI cl X tg (.Call (.Name "range" p) [a] [] pos) (iRange1 f) := by
  obtain ⟨t, h1, h2⟩ := ha.ex
  refine ⟨_, pi_range1 hg hm h1 hs, fun W σ H r m R ds m' e Rr k => ?_⟩
  obtain ⟨⟨ss, m1⟩, e1, e⟩ := bind_ok e
  obtain ⟨xs, e2, e⟩ := bind_ok e
  refine h2 W σ H r m R ss _ e1 _ fun vs W1 H1 w1 R1 z1 => ?_
  have sh := R1.views z1 e2
  split at e
  · obtain ⟨hh, e⟩ := ite_ok e
    cases e
    have := sh.int1
    subst this
    exact ⟨_, rfl, hh.1, hh.2, k _ W1 H1 w1 R1 ItOk.range⟩
  · cases e
/-! ### for -/
def forS (g : SG) (body : SS) : List D → SS
  | [], r, m => .ok (.nx, r, m)
  | d :: ds, r, m => do
    let r1 ← g (.val d) r m
    let (fl, r2, m2) ← body r1 m
    match fl with
    | .nx => forS g body ds r2 m2
    | .ct => forS g body ds r2 m2
    | .bk => .ok (.nx, r2, m2)
    | .rt d => .ok (.rt d, r2, m2)
def sFor (f : SI) (g : SG) (body : SS) : SS := fun r m => do
  let (ds, m1) ← f r m
  forS g body ds r m1
/-- an item has come -/
theorem Rl.item {T : Tab} {J : It} {W : Wo} {σ : St} {H H' : Hp} {r : List Sl} {m : List Cell} {F H0 : Hp} {ds : List D} {i : Nat} {d : D} {x : V} (R : Rl T W σ H r m) (ok : ItOk T J F H0 ds) (hs : Same F W.F) (hi : ds[i]? = some d) (y : J.yld i H x H') :
    ∃ W', Stp W H W' H' ∧ Rl T W' σ H' r m ∧ SlR T W' (.val d) x := by
  rcases ok.yld i d H W.F x H' hi hs R.le y with ⟨rfl, z⟩ | ⟨p, o, hp, rfl, rfl, z⟩
  · exact ⟨W, Stp.refl _ _, R, z⟩
  · obtain ⟨R2, w2⟩ := R.newFz (o := o) hp
    exact ⟨_, w2, R2, z (R.le.none hp)⟩
theorem drop_cons {A : Type} {l : List A} {i : Nat} {d : A} (h : l[i]? = some d) : l.drop i = d :: l.drop (i + 1) := by
  have hi := lt_of_get h
  rw [List.drop_eq_getElem_cons hi]
  rw [List.getElem?_eq_getElem hi] at h
  cases h; rfl
theorem ds_for {tg it : Expr} {body : List Stmt} {pos : Pos} {f : SI} {vs : List Nat} {g : SG} {fb : SS} (hp : PassesOwn (model X.prog X.w) X.A X.env X.xe) (hc : X.calm = true) (hi : DI cl X tg it f) (hg : DG cl X tg vs g) (hb : DSs cl X body fb)
    (hs : ∀ x, foldedSetIterable it X.env x = pure x := by intro _; rfl) : DS cl X (.For tg it body [] pos) (sFor f g fb) := by
  obtain ⟨wi, i1, i2⟩ := hi.ex
  obtain ⟨tg', g1, g2⟩ := hg.ex
  obtain ⟨tb, b1, b2⟩ := hb.ex
  refine ⟨_, ps_for hp hc i1 g1 b1 hs, fun W σ H r m R fl r' m' e Dn k => ?_⟩
  obtain ⟨⟨ds, m1⟩, e1, e⟩ := bind_ok e
  refine i2 W σ H r m R ds m1 e1 _ fun J W1 H1 w1 R1 ok => ?_
  have e : forS g fb ds r m1 = .ok (fl, r', m') := e
  refine ⟨fun i n σ2 H2 => n = ds.length - i ∧ i ≤ ds.length ∧ ∃ W2 r2 m2, Stp W1 H1 W2 H2 ∧ Rl ⟨X.K, cl⟩ W2 σ2 H2 r2 m2 ∧ forS g fb (ds.drop i) r2 m2 = .ok (fl, r', m'), ⟨_, rfl, Nat.zero_le _, W1, r, m1, Stp.refl _ _, R1, e⟩, ?_⟩
  rintro i n σ2 H2 ⟨rfl, hil, W2, r2, m2, w2, R2, e2⟩
  by_cases hlt : i < ds.length
  · have hd : ds[i]? = some ds[i] := List.getElem?_eq_getElem hlt
    generalize ds[i] = d at hd
    rw [drop_cons hd] at e2
    refine .inr ⟨ok.go i H2 W2.F hlt w2.w.f R2.le w2.kf, fun σ' H' => ∃ W3 r3 m3, Stp W1 H1 W3 H' ∧ Rl ⟨X.K, cl⟩ W3 σ' H' r3 m3 ∧ forS g fb (ds.drop (i + 1)) r3 m3 = .ok (fl, r', m'), fun σ' H' q => ⟨ds.length - (i + 1), by omega, rfl, hlt, q⟩, fun x H3 y => ?_⟩
    obtain ⟨W3, w3, R3, z3⟩ := R2.item ok w2.w.f hd y
    obtain ⟨r3, e3, e2⟩ := bind_ok e2
    obtain ⟨⟨fl4, r4, m4⟩, e4, e2⟩ := bind_ok e2
    refine g2 W3 σ2 H3 r2 m2 x _ R3 z3 r3 e3 _ fun σ4 R4 _ _ => ?_
    refine b2 W3 σ4 H3 r3 m2 R4 fl4 r4 m4 e4 _ fun W5 σ5 H5 w5 R5 => ?_
    have ww := w2.trans (w3.trans w5)
    cases fl4 with
    | nx => exact ⟨W5, r4, m4, ww, R5, e2⟩
    | ct => exact ⟨W5, r4, m4, ww, R5, e2⟩
    | bk => cases e2; exact k W5 σ5 H5 (w1.trans ww) R5
    | rt d => cases e2; exact k W5 σ5 H5 (w1.trans ww) R5
  · have hi : i = ds.length := by omega
    subst hi
    rw [List.drop_length] at e2
    cases e2
    exact .inl ⟨ok.stop H2 W2.F w2.w.f R2.le w2.kf, k W2 σ2 H2 (w1.trans w2) R2⟩
/-! ### list comprehensions -/
def wipeR (r : List Sl) : List Nat → List Sl
  | [] => r
  | v :: vs => (wipeR r vs).set v .un
theorem wipeR_some {r : List Sl} {i : Nat} {s : Sl} : ∀ {vs : List Nat}, (wipeR r vs)[i]? = some s → s ≠ .un → r[i]? = some s ∧ i ∉ vs
  | [], h, _ => ⟨h, by simp⟩
  | v :: vs, h, n => by
    unfold wipeR at h
    rcases get_set_of h with ⟨rfl, rfl⟩ | ⟨hne, h⟩
    · exact absurd rfl n
    · obtain ⟨h1, h2⟩ := wipeR_some h n
      exact ⟨h1, by simp [hne, h2]⟩
theorem wipeR_length (r : List Sl) : ∀ vs : List Nat, (wipeR r vs).length = r.length
  | [] => rfl
  | v :: vs => by unfold wipeR; rw [List.length_set, wipeR_length r vs]
theorem wipe_get {σ : St} {i : Nat} : ∀ {vs : List Nat}, i ∉ vs → (wipe σ vs)[i]? = σ[i]?
  | [], _ => rfl
  | v :: vs, h => by
    simp only [List.mem_cons, not_or] at h
    unfold wipe
    rw [List.getElem?_set_ne (Ne.symm h.1), wipe_get h.2]
theorem wipe_in {σ : St} {i : Nat} : ∀ {vs : List Nat}, i ∈ vs → i < σ.length → (wipe σ vs)[i]? = some none
  | v :: vs, h, hl => by
    unfold wipe
    by_cases e : v = i
    · subst e
      rw [List.getElem?_set_self (by rw [wipe_length]; exact hl)]
    · rw [List.getElem?_set_ne e]
      rcases List.mem_cons.mp h with z | z
      · exact absurd z.symm e
      · exact wipe_in z hl
theorem wipe_eq {σ σ' : St} {vs : List Nat} (hl : σ'.length = σ.length) (h : ∀ i, i ∉ vs → σ'[i]? = σ[i]?) : wipe σ' vs = wipe σ vs := by
  apply List.ext_getElem?
  intro i
  by_cases hi : i ∈ vs
  · by_cases hlt : i < σ.length
    · rw [wipe_in hi hlt, wipe_in hi (by omega)]
    · rw [List.getElem?_eq_none (by rw [wipe_length]; omega), List.getElem?_eq_none (by rw [wipe_length]; omega)]
  · rw [wipe_get hi, wipe_get hi, h i hi]
theorem Rl.wipe {T : Tab} {W : Wo} {σ : St} {H : Hp} {r : List Sl} {m : List Cell} (R : Rl T W σ H r m) (vs : List Nat) : Rl T W (wipe σ vs) H (wipeR r vs) m := by
  refine ⟨R.le, fun i s e n => ?_, by rw [wipeR_length, wipe_length, R.len], R.ml, R.ce, R.live, R.inj⟩
  obtain ⟨e1, h⟩ := wipeR_some e n
  obtain ⟨v, e2, z⟩ := R.sl i s e1 n
  exact ⟨v, by rw [wipe_get h]; exact e2, z⟩
/-- the slots as another state told them -/
theorem Rl.slots {T : Tab} {W W' : Wo} {σ σ' : St} {H H' : Hp} {r r' : List Sl} {m m' : List Cell} (R : Rl T W σ H r m) (w : Wle W W') (R' : Rl T W' σ' H' r' m') : Rl T W' σ H' r m' := by
  refine ⟨R'.le, fun i s e n => ?_, R.len, R'.ml, R'.ce, R'.live, R'.inj⟩
  obtain ⟨v, e2, z⟩ := R.sl i s e n
  exact ⟨v, e2, z.mono w⟩
def lcS (g : SG) (ft : SB) (fe : SE) (r : List Sl) : List D → List D → List Cell → Out (List D × List Cell)
  | [], acc, m => .ok (acc, m)
  | d :: ds, acc, m => do
    let r1 ← g (.val d) r m
    let (b, m1) ← ft r1 m
    if b then
      let (s, m2) ← fe r1 m1
      let (x, m3) ← toD s m2
      if acc.length < sizeLine then lcS g ft fe r ds (acc ++ [x]) m3 else .bad
    else lcS g ft fe r ds acc m1
def fLc (vs : List Nat) (f : SI) (g : SG) (ft : SB) (fe : SE) : SF := fun r m => do
  let (ds, m1) ← f r m
  let (xs, m2) ← lcS g ft fe (wipeR r vs) ds [] m1
  .ok (.lst xs, m2)
def bYes : SB := fun _ m => .ok (true, m)
structure DTs (cl : Cl) (X : Cx) (es : List Expr) (f : SB) : Prop where
  ex : ∃ t, PTs X es t ∧ ∀ W σ H r m, Rl ⟨X.K, cl⟩ W σ H r m → ∀ b m', f r m = .ok (b, m') → ∀ Q : Bool → Hp → Prop,
    (∀ W' H', Stp W H W' H' → Rl ⟨X.K, cl⟩ W' σ H' r m' → Q b H') → t σ H Q
theorem dts_nil : DTs cl X [] bYes := ⟨_, pts_nil, fun W σ H r m R b m' e Q k => by cases e; exact k W H (Stp.refl _ _) R⟩
theorem dts_one {c : Expr} {f : SB} (h : DT cl X c f) : DTs cl X [c] f := by
  obtain ⟨t, h1, h2⟩ := h.ex
  exact ⟨t, pts_one h1, h2⟩
theorem Reps.snoc {T : Tab} {F : Hp} {d : D} {v : V} (h : Rep T F d v) : ∀ {ds : List D} {vs : List V}, Reps T F ds vs → Reps T F (ds ++ [d]) (vs ++ [v])
  | [], _, e => by cases e; exact ⟨v, [], rfl, h, rfl⟩
  | _ :: _, _, ⟨u, r, e, z, t⟩ => by
    subst e
    exact ⟨u, r ++ [v], rfl, z, Reps.snoc h t⟩
/-! ### readings that hold in every context -/
def tE (T : Tab) (f : SE) : TE := fun σ H Q => ∃ W r m s m', Rl T W σ H r m ∧ f r m = .ok (s, m') ∧ ∀ v W' H', Stp W H W' H' → Rl T W' σ H' r m' → SlR T W' s v → Q v H'
theorem DE.uni {e : Expr} {f : SE} (h : DE cl X e f) : PE X e (tE ⟨X.K, cl⟩ f) := by
  obtain ⟨t, h1, h2⟩ := h.ex
  refine ⟨fun pins s σ H Q I h => ?_⟩
  obtain ⟨W, r, m, s', m', R, e, k⟩ := h
  exact h1.run pins s σ H Q I (h2 W σ H r m R s' m' e Q k)
def tBt (T : Tab) (f : SB) : TT := fun σ H Q => ∃ W r m s m', Rl T W σ H r m ∧ f r m = .ok (s, m') ∧ ∀ W' H', Stp W H W' H' → Rl T W' σ H' r m' → Q s H'
theorem DTs.uni {es : List Expr} {f : SB} (h : DTs cl X es f) : PTs X es (tBt ⟨X.K, cl⟩ f) := by
  obtain ⟨t, h1, h2⟩ := h.ex
  refine ⟨fun pins s σ H Q I h => ?_⟩
  obtain ⟨W, r, m, s', m', R, e, k⟩ := h
  exact h1.run pins s σ H Q I (h2 W σ H r m R s' m' e Q k)
def tGt (T : Tab) (vs : List Nat) (g : SG) : TG := fun v σ H Q => ∃ W r m s r', Rl T W σ H r m ∧ SlR T W s v ∧ g s r m = .ok r' ∧ ∀ σ', Rl T W σ' H r' m → (∀ i, i ∉ vs → σ'[i]? = σ[i]?) → σ'.length = σ.length → Q σ' H
theorem DG.uni {e : Expr} {vs : List Nat} {g : SG} (h : DG cl X e vs g) : PG X e (tGt ⟨X.K, cl⟩ vs g) := by
  obtain ⟨t, h1, h2⟩ := h.ex
  refine ⟨fun pins s σ H v u Q I rv h => ?_⟩
  obtain ⟨W, r, m, s', r', R, z, e, k⟩ := h
  exact h1.run pins s σ H v u Q I rv (h2 W σ H r m v s' R z r' e Q k)
/-- the heart of a comprehension -/
theorem lc_read1 {wi : TI} {vs : List Nat} {f : SI} {g : SG} {ft : SB} {fe : SE} {W : Wo} {σ : St} {H : Hp} {r : List Sl} {m : List Cell} (R : Rl ⟨X.K, cl⟩ W σ H r m) (i2 : ∀ ds m', f r m = .ok (ds, m') → ∀ R : It → Hp → Prop,
      (∀ J W' H', Stp W H W' H' → Rl ⟨X.K, cl⟩ W' σ H' r m' → ItOk ⟨X.K, cl⟩ J W'.F H' ds → R J H') → wi σ H R) :
    ∀ d m', fLc vs f g ft fe r m = .ok (d, m') → ∀ Q : VK,
      (∀ p W' H', Stp W H W' H' → Rl ⟨X.K, cl⟩ W' σ H' r m' → H p = none → Loose W' p → Sh ⟨X.K, cl⟩ W'.F H' p d → Q (.ref p) H') →
      tLc wi (tGt ⟨X.K, cl⟩ vs g) (tBt ⟨X.K, cl⟩ ft) (tE ⟨X.K, cl⟩ fe) vs σ H Q := by
  intro d m' e Q k
  obtain ⟨⟨ds, m1⟩, e1, e⟩ := bind_ok e
  obtain ⟨⟨xs, m2⟩, e2, e⟩ := bind_ok e
  cases e
  refine i2 ds m1 e1 _ fun J W1 H1 w1 R1 ok => fun L hL => ?_
  have e2 : lcS g ft fe (wipeR r vs) ds [] m1 = .ok (xs, m') := e2
  obtain ⟨R1', lo1, w1'⟩ := R1.new (o := .lst []) hL
  refine ⟨fun i n H2 => n = ds.length - i ∧ i ≤ ds.length ∧ ∃ W2 m2 acc us, Stp W1 H1 W2 H2 ∧ Rl ⟨X.K, cl⟩ W2 σ H2 r m2 ∧ Loose W2 L ∧ H2 L = some (.lst us) ∧ Reps ⟨X.K, cl⟩ W2.F acc us ∧ lcS g ft fe (wipeR r vs) (ds.drop i) acc m2 = .ok (xs, m'),
    ⟨_, rfl, Nat.zero_le _, W1, m1, [], [], w1', R1', lo1, upd_same, rfl, e2⟩, ?_⟩
  rintro i n H2 ⟨rfl, hil, W2, m2, acc, us, w2, R2, lo2, hL2, rs2, e3⟩
  by_cases hlt : i < ds.length
  · have hd : ds[i]? = some ds[i] := List.getElem?_eq_getElem hlt
    generalize ds[i] = d at hd
    rw [drop_cons hd] at e3
    refine .inr ⟨ok.go i H2 W2.F hlt w2.w.f R2.le w2.kf, fun H' => ∃ W3 m3 acc us, Stp W1 H1 W3 H' ∧ Rl ⟨X.K, cl⟩ W3 σ H' r m3 ∧ Loose W3 L ∧ H' L = some (.lst us) ∧ Reps ⟨X.K, cl⟩ W3.F acc us ∧ lcS g ft fe (wipeR r vs) (ds.drop (i + 1)) acc m3 = .ok (xs, m'), fun H' q => ⟨ds.length - (i + 1), by omega, rfl, hlt, q⟩, fun x H3 y => ?_⟩
    obtain ⟨W3, w3, R3, z3⟩ := R2.item ok w2.w.f hd y
    obtain ⟨r3, e4, e3⟩ := bind_ok e3
    obtain ⟨⟨b, m4⟩, e5, e3⟩ := bind_ok e3
    have loose : ∀ {Wa Wb : Wo} {Ha Hb : Hp}, Stp Wa Ha Wb Hb → Loose Wa L → Ha L ≠ none → Loose Wb L := fun st lo hn => by
      refine ⟨?_, fun j q => ?_⟩
      · rename_i Wa Wb Ha Hb
        cases q : Wb.F L with
        | none => rfl
        | some o =>
          rcases st.fr L (by rw [q]; exact fun z => nomatch z) with z | z | ⟨j, z⟩
          · exact absurd lo.f z
          · exact absurd z hn
          · exact absurd z (lo.al j)
      · rcases st.cells j L q with z | z
        · exact lo.al j z
        · exact hn z
    have hn2 : H2 L ≠ none := by rw [hL2]; exact fun z => nomatch z
    have lo3 := loose w3 lo2 hn2
    have hL3 := w3.keep L _ hL2 lo2.al
    have hn3 : H3 L ≠ none := by rw [hL3]; exact fun z => nomatch z
    refine ⟨W3, wipeR r vs, m2, .val d, r3, R3.wipe vs, z3, e4, fun σ4 R4 k4 l4 => ⟨?_, ?_⟩⟩
    · have h1 := wipe_eq (vs := vs) l4 k4
      rw [h1]
      exact wipe_eq (by rw [wipe_length]) fun i hi => wipe_get hi
    · refine ⟨W3, r3, m2, b, m4, R4, e5, fun W5 H5 w5 R5 => ?_⟩
      have lo5 := loose w5 lo3 hn3
      have hL5 := w5.keep L _ hL3 lo3.al
      have hn5 : H5 L ≠ none := by rw [hL5]; exact fun z => nomatch z
      have s5 : Rl ⟨X.K, cl⟩ W5 σ H5 r m4 := R3.slots w5.w R5
      cases b with
      | false =>
        refine iteF ?_
        exact ⟨W5, m4, acc, us, (w2.trans w3).trans w5, s5, lo5, hL5, Reps.mono (w3.w.f.trans w5.w.f) _ _ rs2, e3⟩
      | true =>
        refine iteT ?_
        have e3 : (fe r3 m4 >>= fun q => toD q.1 q.2 >>= fun q2 => if acc.length < sizeLine then lcS g ft fe (wipeR r vs) (ds.drop (i + 1)) (acc ++ [q2.1]) q2.2 else .bad) = .ok (xs, m') := e3
        obtain ⟨⟨s6, m6⟩, e6, e3⟩ := bind_ok e3
        obtain ⟨⟨x7, m7⟩, e7, e3⟩ := bind_ok e3
        by_cases hz : acc.length < sizeLine
        · simp only [hz, if_true] at e3
          refine ⟨W5, r3, m4, s6, m6, R5, e6, fun v W6 H6 w6 R6 z6 => ?_⟩
          have lo6 := loose w6 lo5 hn5
          have hL6 := w6.keep L _ hL5 lo5.al
          have hn6 : H6 L ≠ none := by rw [hL6]; exact fun z => nomatch z
          obtain ⟨W7, w7, R7, z7⟩ := R6.toD z6 e7
          have lo7 := loose w7 lo6 hn6
          have s7 : Rl ⟨X.K, cl⟩ W7 σ H6 r m7 := R3.slots ((w5.trans w6).trans w7).w R7
          have rs7 := Reps.mono (((w3.w.f.trans w5.w.f).trans w6.w.f).trans w7.w.f) _ _ rs2
          refine ⟨us, hL6, by rw [rs2.length]; exact hz, W7, m7, acc ++ [x7], us ++ [v], ?_, ?_, lo7, upd_same, Reps.snoc z7 rs7, e3⟩
          · have hm : ∀ b, H6 b ≠ none → upd H6 L (.lst (us ++ [v])) b ≠ none := fun b e z => by
              unfold upd at z
              split at z
              · cases z
              · exact e z
            have ww := (((w2.trans w3).trans w5).trans w6).trans w7
            exact ⟨ww.w, fun b o e n => by
              have hb : b ≠ L := fun z => by subst z; rw [hL] at e; cases e
              rw [upd_ne hb]; exact ww.keep b o e n, fun b e => hm b (ww.more b e), ww.cells, ww.fr, fun b o f e => by
              have hb : b ≠ L := fun z => by subst z; rw [hL] at e; cases e
              rw [upd_ne hb]; exact ww.kf b o f e⟩
          · have hm : ∀ b, H6 b ≠ none → upd H6 L (.lst (us ++ [v])) b ≠ none := fun b e z => by
              unfold upd at z
              split at z
              · cases z
              · exact e z
            refine ⟨fun b o q => ?_, s7.sl, s7.len, s7.ml, fun j c q e1 e2 => ?_, fun j q e => hm q (s7.live j q e), s7.inj⟩
            · have hb : b ≠ L := fun z => by subst z; rw [lo7.f] at q; cases q
              rw [upd_ne hb]; exact s7.le b o q
            · have hb : q ≠ L := fun z => by subst z; exact lo7.al j e2
              exact (s7.ce j c q e1 e2).mono (Same.refl _) (fun z => z) fun o z => by rw [upd_ne hb]; exact z
        · simp [hz] at e3
  · have hi : i = ds.length := by omega
    subst hi
    rw [List.drop_length] at e3
    cases e3
    refine .inl ⟨ok.stop H2 W2.F w2.w.f R2.le w2.kf, k L W2 H2 (w1.trans w2) R2 (w1.free hL) lo2 ⟨us, hL2, rs2⟩⟩
theorem lc_read {wi : TI} {vs : List Nat} {f : SI} {g : SG} {ft : SB} {fe : SE} (i2 : ∀ W σ H r m, Rl ⟨X.K, cl⟩ W σ H r m → ∀ ds m', f r m = .ok (ds, m') → ∀ R : It → Hp → Prop,
      (∀ J W' H', Stp W H W' H' → Rl ⟨X.K, cl⟩ W' σ H' r m' → ItOk ⟨X.K, cl⟩ J W'.F H' ds → R J H') → wi σ H R) :
    ∀ W σ H r m, Rl ⟨X.K, cl⟩ W σ H r m → ∀ d m', fLc vs f g ft fe r m = .ok (d, m') → ∀ Q : VK,
      (∀ p W' H', Stp W H W' H' → Rl ⟨X.K, cl⟩ W' σ H' r m' → H p = none → Loose W' p → Sh ⟨X.K, cl⟩ W'.F H' p d → Q (.ref p) H') →
      tLc wi (tGt ⟨X.K, cl⟩ vs g) (tBt ⟨X.K, cl⟩ ft) (tE ⟨X.K, cl⟩ fe) vs σ H Q := fun W σ H r m R => lc_read1 R (i2 W σ H r m R)
theorem fe_lc {elt tg it : Expr} {ifs : List Expr} {scope : Scope} {own : List (Str × Nat)} {pos : Pos} {f : SI} {g : SG} {ft : SB} {fe : SE} (hc : X.calm = true) (hN : X.N.Nodup) (hi : DI cl X tg it f) (ok : BlkOk X.N X.env.scope scope own)
    (hg : ∀ (s : Shared) (H : Hp) (C : Addr) (c : List (Str × Addr)) (fp : List Addr), DG cl (X.blk s H scope (compEnvC scope c C X.env) fp) tg (own.map (·.2)) g) (ht : ∀ (s : Shared) (H : Hp) (C : Addr) (c : List (Str × Addr)) (fp : List Addr), DTs cl (X.blk s H scope (compEnvC scope c C X.env) fp) ifs ft)
    (he : ∀ (s : Shared) (H : Hp) (C : Addr) (c : List (Str × Addr)) (fp : List Addr), DE cl (X.blk s H scope (compEnvC scope c C X.env) fp) elt fe) (hs : ∀ x, foldedSetIterable it X.env x = pure x := by intro _; rfl) :
    FE cl X (.ListComp elt [⟨tg, it, ifs, 0⟩] scope pos) (fLc (own.map (·.2)) f g ft fe) := by
  obtain ⟨wi, i1, i2⟩ := hi.ex
  exact ⟨_, pe_lc (g := tGt ⟨X.K, cl⟩ (own.map (·.2)) g) (tt := tBt ⟨X.K, cl⟩ ft) (te := tE ⟨X.K, cl⟩ fe) hc hN i1 ok (fun s H C c fp => (hg s H C c fp).uni) (fun s H C c fp => (ht s H C c fp).uni) (fun s H C c fp => (he s H C c fp).uni) hs, lc_read i2⟩
/-- name = [..] on one line, the name a local: as data, as a cell -/
theorem ds_setLcF {i : Nat} {y : Str} {py : Pos} {elt tg it : Expr} {ifs : List Expr} {scope : Scope} {own : List (Str × Nat)} {pos spos : Pos} {f : SI} {g : SG} {ft : SB} {fe : SE} (hc : X.calm = true) (hN : X.N.Nodup) (hy : X.N[i]? = some y) (hyl : X.env.scope.names.lookup y = some .local)
    (hsw : swapsWith (.ListComp elt [⟨tg, it, ifs, 0⟩] scope pos) (some (.Name y py)) spos.line X.env = pure true) (hi : DI cl X tg it f) (ok : BlkOk X.N X.env.scope scope own)
    (hg : ∀ (s : Shared) (H : Hp) (C : Addr) (c : List (Str × Addr)) (fp : List Addr), DG cl (X.blk s H scope (compEnvC scope c C X.env) fp) tg (own.map (·.2)) g) (ht : ∀ (s : Shared) (H : Hp) (C : Addr) (c : List (Str × Addr)) (fp : List Addr), DTs cl (X.blk s H scope (compEnvC scope c C X.env) fp) ifs ft)
    (he : ∀ (s : Shared) (H : Hp) (C : Addr) (c : List (Str × Addr)) (fp : List Addr), DE cl (X.blk s H scope (compEnvC scope c C X.env) fp) elt fe) (hs : ∀ x, foldedSetIterable it X.env x = pure x := by intro _; rfl) :
    DS cl X (.Assign [.Name y py] (.ListComp elt [⟨tg, it, ifs, 0⟩] scope pos) spos) (sSet i (sFz (fLc (own.map (·.2)) f g ft fe))) := by
  obtain ⟨wi, i1, i2⟩ := hi.ex
  refine ⟨_, ps_setLc (g := tGt ⟨X.K, cl⟩ (own.map (·.2)) g) (tt := tBt ⟨X.K, cl⟩ ft) (te := tE ⟨X.K, cl⟩ fe) hc hN hy hyl hsw i1 ok (fun s H C c fp => (hg s H C c fp).uni) (fun s H C c fp => (ht s H C c fp).uni) (fun s H C c fp => (he s H C c fp).uni) hs, fun W σ H r m R fl r' m' e Dn k => ?_⟩
  obtain ⟨⟨s, m1⟩, e1, e⟩ := bind_ok e
  cases e
  obtain ⟨⟨d, m2⟩, e1, e⟩ := bind_ok e1
  cases e
  refine lc_read i2 W σ H r m R d _ e1 _ fun p W' H' hw R' hn lo sh => ?_
  obtain ⟨o, ho, hr⟩ := sh.frz lo.f
  exact k _ _ H' (hw.fz hn lo) ((R'.freeze ho lo).set hr)
end
end Nv
set_option Elab.async false
set_option linter.all false
set_option maxRecDepth 100000
set_option maxHeartbeats 4000000
namespace Nv
open PySem PySem.Spec PyProof.Rows L2
/-! ### what a def promises, by data -/
inductive Arg where
  | v (d : D) | b (d : D)
/-- from the arguments' data to the result and what the lent things hold behind the call -/
abbrev Fn := List Arg → Out (D × List D)
def slotsOf : List Arg → Nat → List Sl
  | [], _ => []
  | .v d :: as, k => .val d :: slotsOf as k
  | .b _ :: as, k => .ref k :: slotsOf as (k + 1)
def cellsOf : List Arg → List Cell
  | [] => []
  | .v _ :: as => cellsOf as
  | .b d :: as => ⟨.bor, d⟩ :: cellsOf as
def backs : Nat → List Cell → Out (List D)
  | 0, _ => .ok []
  | k + 1, ⟨.bor, d⟩ :: m => do
    let ds ← backs k m
    .ok (d :: ds)
  | _ + 1, _ => .bad
def retOf : Fl → Out D
  | .rt d => .ok d
  | .nx => .ok .non
  | _ => .bad
def fnOf (n : Nat) (body : SS) : Fn := fun as => do
  let (fl, _, m) ← body (slotsOf as 0 ++ List.replicate (n - as.length) .un) (cellsOf as)
  let d ← retOf fl
  let ds ← backs (cellsOf as).length m
  .ok (d, ds)
def ArgR (T : Tab) (F H : Hp) : List Arg → List V → List Addr → Prop
  | [], vs, ps => vs = [] ∧ ps = []
  | .v d :: as, vs, ps => ∃ v r, vs = v :: r ∧ Rep T F d v ∧ ArgR T F H as r ps
  | .b d :: as, vs, ps => ∃ p r q, vs = .ref p :: r ∧ ps = p :: q ∧ (Sh T F H p d ∧ F p = none) ∧ ArgR T F H as r q
structure Ret (T : Tab) (F H : Hp) (ps : List Addr) (F' H' : Hp) (ds : List D) : Prop where
  f : Same F F'
  le : Le F' H'
  keep : ∀ b o, H b = some o → b ∉ ps → H' b = some o
  more : ∀ b, H b ≠ none → H' b ≠ none
  fr : ∀ b, F' b ≠ none → F b ≠ none ∨ H b = none
  ce : ∀ (i : Nat) (p : Addr) (d : D), ps[i]? = some p → ds[i]? = some d → Sh T F' H' p d ∧ F' p = none
  len : ds.length = ps.length
def toSp (T : Tab) (n : Nat) (g : Fn) : Sp := fun vs H Q _ => vs.length = n ∧ ∃ F as ps d ds, Le F H ∧ ArgR T F H as vs ps ∧ ps.Nodup ∧ g as = .ok (d, ds) ∧
  ∀ v F' H', Ret T F H ps F' H' ds → Rep T F' d v → Q v H'
theorem ArgR.len {T : Tab} {F H : Hp} : ∀ {as : List Arg} {vs : List V} {ps : List Addr}, ArgR T F H as vs ps → vs.length = as.length ∧ (cellsOf as).length = ps.length
  | [], _, _, h => by obtain ⟨rfl, rfl⟩ := h; exact ⟨rfl, rfl⟩
  | .v d :: as, _, _, h => by
    obtain ⟨v, r, rfl, _, t⟩ := h
    obtain ⟨e1, e2⟩ := ArgR.len t
    exact ⟨by simp [e1], by simp [cellsOf, e2]⟩
  | .b d :: as, _, _, h => by
    obtain ⟨p, r, q, rfl, rfl, _, t⟩ := h
    obtain ⟨e1, e2⟩ := ArgR.len t
    exact ⟨by simp [e1], by simp [cellsOf, e2]⟩
theorem slotsOf_len : ∀ (as : List Arg) (k : Nat), (slotsOf as k).length = as.length
  | [], _ => rfl
  | .v _ :: as, k => by simp [slotsOf, slotsOf_len as k]
  | .b _ :: as, k => by simp [slotsOf, slotsOf_len as (k + 1)]
theorem ArgR.slot {T : Tab} {F H : Hp} : ∀ {as : List Arg} {vs : List V} {ps qs : List Addr} {i : Nat} {s : Sl}, ArgR T F H as vs ps → (slotsOf as qs.length)[i]? = some s → ∃ v, vs[i]? = some v ∧ SlR T ⟨F, qs ++ ps⟩ s v
  | [], _, _, _, _, _, _, e => by simp [slotsOf] at e
  | .v d :: as, _, ps, qs, 0, s, h, e => by
    obtain ⟨v, r, rfl, z, t⟩ := h
    simp [slotsOf] at e; subst e
    exact ⟨v, rfl, z⟩
  | .v d :: as, _, ps, qs, i + 1, s, h, e => by
    obtain ⟨v, r, rfl, z, t⟩ := h
    obtain ⟨u, e1, q⟩ := ArgR.slot (i := i) (qs := qs) t (by simpa [slotsOf] using e)
    exact ⟨u, by simpa using e1, q⟩
  | .b d :: as, _, _, qs, 0, s, h, e => by
    obtain ⟨p, r, q, rfl, rfl, _, t⟩ := h
    simp [slotsOf] at e; subst e
    exact ⟨.ref p, rfl, p, by simp, rfl⟩
  | .b d :: as, _, _, qs, i + 1, s, h, e => by
    obtain ⟨p, r, q, rfl, rfl, _, t⟩ := h
    obtain ⟨u, e1, z⟩ := ArgR.slot (i := i) (qs := qs ++ [p]) t (by simpa [slotsOf] using e)
    exact ⟨u, by simpa using e1, by simpa using z⟩
theorem ArgR.cell {T : Tab} {F H : Hp} {al : List Addr} : ∀ {as : List Arg} {vs : List V} {ps : List Addr} {j : Nat} {c : Cell} {p : Addr}, ArgR T F H as vs ps → (cellsOf as)[j]? = some c → ps[j]? = some p → CellOk T ⟨F, al⟩ H p c
  | [], _, _, _, _, _, _, e, _ => by simp [cellsOf] at e
  | .v d :: as, _, _, _, _, _, h, e, e' => by
    obtain ⟨v, r, rfl, z, t⟩ := h
    exact ArgR.cell t (by simpa [cellsOf] using e) e'
  | .b d :: as, _, _, 0, _, _, h, e, e' => by
    obtain ⟨p, r, q, rfl, rfl, z, t⟩ := h
    simp [cellsOf] at e e'; subst e; subst e'
    exact z
  | .b d :: as, _, _, j + 1, _, _, h, e, e' => by
    obtain ⟨p, r, q, rfl, rfl, z, t⟩ := h
    exact ArgR.cell (j := j) t (by simpa [cellsOf] using e) (by simpa using e')
theorem backs_ok : ∀ {k : Nat} {m : List Cell} {ds : List D}, backs k m = .ok ds → ds.length = k ∧ ∀ (i : Nat) (d : D), ds[i]? = some d → m[i]? = some ⟨.bor, d⟩
  | 0, m, ds, e => by cases e; exact ⟨rfl, fun i d h => by simp at h⟩
  | k + 1, [], ds, e => by cases e
  | k + 1, ⟨.bor, d0⟩ :: m, ds, e => by
    obtain ⟨ds', e1, e⟩ := bind_ok e
    cases e
    obtain ⟨h1, h2⟩ := backs_ok e1
    refine ⟨by simp [h1], fun i d h => ?_⟩
    cases i with
    | zero => simp at h; subst h; rfl
    | succ i => simpa using h2 i d (by simpa using h)
  | k + 1, ⟨.own, _⟩ :: _, _, e => by cases e
  | k + 1, ⟨.frz, _⟩ :: _, _, e => by cases e
  | k + 1, ⟨.opn _ _, _⟩ :: _, _, e => by cases e
/-- room for k calls, and no repr is running -/
structure RoomG (k : Nat) (A : Around) : Prop where
  room : Room k A
  gd : A.guards = some []
theorem RoomG.mono {j k : Nat} {A : Around} (r : RoomG k A) (h : j ≤ k) : RoomG j A := ⟨r.room.mono h, r.gd⟩
theorem RoomG.deeper {k : Nat} {A : Around} (r : RoomG (k + 1) A) (env : Env) : RoomG k (A.deeper env) := ⟨r.room.deeper env, r.gd⟩
/-- a def that keeps a promise where no repr is running -/
structure FnG (P : Program) (w : World) (K : PySem.W.Frag) (mg : Str → Option Value) (base : Heap) (k : Nat) (f : Addr) (fd : FuncData) (ps : List Str) (sp : Sp) : Prop where
  len : ∀ vs H Q E, sp vs H Q E → vs.length = ps.length
  run : ∀ (A : Around) (outer : List Env) (s : Shared) (H : Hp) (args : Args) (us : List Value) (vs : List V) (Q : VK) (E : XK), RoomG k A → Env0 P w K mg base A outer s H → BindsTo s fd args (ps.zip us) → Vals vs us → sp vs H Q E →
    codeAny (model P w) A (.call (.ref f) args) (CR CX0 outer P w H s Q E) s
section
variable {P : Program} {w : World} {K : PySem.W.Frag} {mg : Str → Option Value} {base : Heap} {cl : Cl}
theorem FnG.mono {j k : Nat} {f : Addr} {fd : FuncData} {ps : List Str} {sp : Sp} (F : FnG P w K mg base j f fd ps sp) (h : j ≤ k) : FnG P w K mg base k f fd ps sp :=
  ⟨F.len, fun A outer s H args us vs Q E hr => F.run A outer s H args us vs Q E (hr.mono h)⟩
theorem Fun.okG {x qual : Str} {st : Stmt} {f : Addr} {fd : FuncData} {N ps : List Str} {k : Nat} {sp : Sp} (F : Fun K x qual st f fd) (S : FnScope N ps (defScope st)) (len : ∀ vs H Q E, sp vs H Q E → vs.length = ps.length)
    (hbody : ∀ (cdv : Value) (A : Around) (outer : List Env) (s : Shared) (H : Hp) (vs : List V) (Q : VK) (E : XK), RoomG k (A.deeper (envOfC qual (defScope st) s.heap.objs.size f cdv)) → sp vs H Q E →
      ∃ t, PSs (cxOf CX0 P w K mg base N qual (defScope st) f cdv A outer s H E).nox (defBody st) t ∧ t { nx := fun _ H' => Q .non H', rt := Q } (L2.start N vs) H) : FnG P w K mg base (k + 1) f fd ps sp := by
  obtain ⟨oc, od, kV, doc, pm, an, cdv, ct, osl, rfl, lk, hcd⟩ := F.ex
  refine ⟨len, fun A outer s H args us vs Q E hr e0 hb r hsp => ?_⟩
  have KX : K.In s.heap := e0.mod.kin.keeps fun b o e => (e0.bs b o e).1
  have lim : s.heap.NoLimit := e0.mod.nolimit.keeps fun b o e => (e0.bs b o e).1
  have par : ∀ y ∈ ps.zip us, (defScope st).names.lookup y.1 = some .local ∨ ((defScope st).names.lookup y.1 = some .cell ∧ ((cellsFrom (s.heap.objs.size + 1) (defScope st).names []).lookup y.1).isSome = true) := by
    rintro ⟨n, v⟩ hy
    refine (S.par n (List.of_mem_zip hy).1).imp id fun q => ⟨q, PySem.W.cellsFrom_some _ _ _ (.inl q)⟩
  refine codeAny_call_function hr.room.depth (KX _ _ lk) rfl S.co S.gen rfl (PySem.W.codeRec_of KX hcd) (hb _ _ _ _ (wpAny_newFunctionEnv_cells S.kind par ?_))
  rintro env rfl s1 x
  refine ⟨lim.keeps x.toInCall.keep, codeAny_func ?_⟩
  obtain ⟨t, ht, hq⟩ := hbody cdv A outer s H vs Q E (hr.deeper _) hsp
  refine wpAny_mono (ht.nox.run [] s1 (L2.start N vs) H _ (inv_start S hr.room.hd e0 (len _ _ _ _ hsp) r x) hq) (fun fl s' hs => ?_) fun e s' hs => hs
  cases fl with
  | ret u => obtain ⟨v, σ', H', J, rv, q⟩ := hs; exact ⟨v, H', J.os, J.bare, J.base, J.hok, rv, q⟩
  | next => obtain ⟨σ', H', J, q⟩ := hs; exact ⟨.non, H', J.os, J.bare, J.base, J.hok, rfl, q⟩
  | brk => obtain ⟨_, _, _, q⟩ := hs; exact False.elim q
  | cont => obtain ⟨_, _, _, q⟩ := hs; exact False.elim q
/-- a body from its data -/
theorem body_read {X : Cx} {sts : List Stmt} {body : SS} {N : List Str} {n : Nat} {vs : List V} {H : Hp} {Q : VK} {E : XK} (hd : DSs cl X sts body) (hpl : n ≤ N.length) (h : toSp ⟨X.K, cl⟩ n (fnOf N.length body) vs H Q E) :
    ∃ t, PSs X sts t ∧ t { nx := fun _ H' => Q .non H', rt := Q } (L2.start N vs) H := by
  obtain ⟨hl, Fz, as, qs, d, ds, le, ar, nd, e, kk⟩ := h
  obtain ⟨t, h1, h2⟩ := hd.ex
  refine ⟨t, h1, ?_⟩
  obtain ⟨⟨fl, r', m'⟩, e1, e⟩ := bind_ok e
  obtain ⟨d', e2, e⟩ := bind_ok e
  obtain ⟨ds', e3, e⟩ := bind_ok e
  cases e
  obtain ⟨la, lc⟩ := ar.len
  have R : Rl ⟨X.K, cl⟩ ⟨Fz, qs⟩ (L2.start N vs) H (slotsOf as 0 ++ List.replicate (N.length - as.length) .un) (cellsOf as) := by
    refine ⟨le, fun i s e n => ?_, ?_, lc, fun j c p e1 e2 => ar.cell e1 e2, fun j p e z => ?_, fun i j p e1 e2 => ?_⟩
    · by_cases hi : i < (slotsOf as 0).length
      · rw [List.getElem?_append_left hi] at e
        obtain ⟨v, e1, z⟩ := ar.slot (qs := []) e
        refine ⟨v, ?_, by simpa using z⟩
        unfold L2.start
        rw [List.getElem?_append_left (by rw [List.length_map]; exact lt_of_get e1), List.getElem?_map, e1]
        rfl
      · rw [List.getElem?_append_right (by omega), List.getElem?_replicate] at e
        split at e
        · cases e; exact absurd rfl n
        · cases e
    · unfold L2.start
      rw [List.length_append, List.length_append, slotsOf_len, List.length_map, List.length_replicate, List.length_replicate]
      omega
    · have hj : j < (cellsOf as).length := by rw [lc]; exact lt_of_get e
      have q := ar.cell (al := qs) (List.getElem?_eq_getElem hj) e
      have hk : ∀ (as : List Arg) (j : Nat) (c : Cell), (cellsOf as)[j]? = some c → c.k = .bor := by
        intro as
        induction as with
        | nil => intro j c h; simp [cellsOf] at h
        | cons a as ih =>
          intro j c h
          cases a with
          | v d => exact ih j c (by simpa [cellsOf] using h)
          | b d =>
            cases j with
            | zero => simp [cellsOf] at h; subst h; rfl
            | succ j => exact ih j c (by simpa [cellsOf] using h)
      have := hk as j _ (List.getElem?_eq_getElem hj)
      generalize (cellsOf as)[j] = c at q this
      obtain ⟨k, d⟩ := c
      cases this
      obtain ⟨o, y⟩ := q.1.some
      rw [z] at y; cases y
    · exact (List.getElem?_inj (lt_of_get e1) nd).mp (e1.trans e2.symm)
  refine h2 ⟨Fz, qs⟩ _ H _ _ R fl r' m' e1 _ fun W' σ' H' st R' => ?_
  obtain ⟨lb, gb⟩ := backs_ok e3
  have ce : ∀ (i : Nat) (p : Addr) (d : D), qs[i]? = some p → ds[i]? = some d → Sh ⟨X.K, cl⟩ W'.F H' p d ∧ W'.F p = none := fun i p d e1 e2 => R'.ce i _ p (gb i d e2) (st.w.al i p e1)
  have ret : Ret ⟨X.K, cl⟩ Fz H qs W'.F H' ds := by
    refine ⟨st.w.f, R'.le, fun b o e n => st.keep b o e fun j z => n (List.mem_of_getElem? z), st.more, fun b e => ?_, ce, by rw [lb, lc]⟩
    rcases st.fr b e with z | z | ⟨j, z⟩
    · exact .inl z
    · exact .inr z
    · have hj : j < ds.length := by rw [lb, lc]; exact lt_of_get z
      exact absurd (ce j b _ z (List.getElem?_eq_getElem hj)).2 e
  cases fl with
  | nx => cases e2; exact kk _ W'.F H' ret rfl
  | rt d => cases e2; exact fun v hv => kk v W'.F H' ret hv
  | bk => cases e2
  | ct => cases e2
/-- THE RULE for a def -/
theorem ok_fn {x qual : Str} {st : Stmt} {f : Addr} {fd : FuncData} {N ps : List Str} {k : Nat} {body : SS} (F : Fun K x qual st f fd) (S : FnScope N ps (defScope st))
    (hb : ∀ (cdv : Value) (A : Around) (outer : List Env) (s : Shared) (H : Hp) (E : XK), RoomG k (A.deeper (envOfC qual (defScope st) s.heap.objs.size f cdv)) →
      DSs cl (cxOf CX0 P w K mg base N qual (defScope st) f cdv A outer s H E).nox (defBody st) body) :
    FnG P w K mg base (k + 1) f fd ps (toSp ⟨K, cl⟩ ps.length (fnOf N.length body)) :=
  Nv.Fun.okG F S (fun vs H Q E h => h.1) fun cdv A outer s H vs Q E hr h =>
    body_read (hb cdv A outer s H E hr) (by have := congrArg List.length S.pre; rw [List.length_take] at this; omega) h
end
/-! ### calls -/
inductive Pre where
  | v (d : D) | c (j : Nat)
def pre : List Bool → List Sl → List Cell → Out (List Pre × List Cell)
  | [], [], m => .ok ([], m)
  | true :: fl, .ref j :: ss, m => do
    let (as, m1) ← pre fl ss m
    .ok (.c j :: as, m1)
  | false :: fl, s :: ss, m => do
    let (d, m1) ← toD s m
    let (as, m2) ← pre fl ss m1
    .ok (.v d :: as, m2)
  | _, _, _ => .bad
def fin (m : List Cell) : List Pre → Out (List Arg)
  | [] => .ok []
  | .v d :: as => do
    let r ← fin m as
    .ok (.v d :: r)
  | .c j :: as => match m[j]? with
    | some ⟨.frz, _⟩ => .bad
    | some ⟨.opn _ _, _⟩ => .bad
    | some c => do
      let r ← fin m as
      .ok (.b c.d :: r)
    | none => .bad
def refsOf : List Pre → List Nat
  | [] => []
  | .v _ :: as => refsOf as
  | .c j :: as => j :: refsOf as
def putBack : List Nat → List D → List Cell → Out (List Cell)
  | [], [], m => .ok m
  | j :: js, d :: ds, m => match m[j]? with
    | some c => putBack js ds (m.set j ⟨c.k, d⟩)
    | none => .bad
  | _, _, _ => .bad
def sCall (fl : List Bool) (g : Fn) (f : SA) : SE := fun r m => do
  let (ss, m1) ← f r m
  let (ps, m2) ← pre fl ss m1
  let as ← fin m2 ps
  if (refsOf ps).Nodup then
    let (d, ds) ← g as
    let m3 ← putBack (refsOf ps) ds m2
    .ok (.val d, m3)
  else .bad
def PreR (T : Tab) (W : Wo) : List Pre → List V → Prop
  | [], vs => vs = []
  | .v d :: as, vs => ∃ v r, vs = v :: r ∧ Rep T W.F d v ∧ PreR T W as r
  | .c j :: as, vs => ∃ p r, vs = .ref p :: r ∧ W.al[j]? = some p ∧ PreR T W as r
theorem PreR.mono {T : Tab} {W W' : Wo} (h : Wle W W') : ∀ {as : List Pre} {vs : List V}, PreR T W as vs → PreR T W' as vs
  | [], _, q => q
  | .v _ :: _, _, ⟨v, r, e, z, t⟩ => ⟨v, r, e, Rep.mono h.f _ _ z, PreR.mono h t⟩
  | .c _ :: _, _, ⟨p, r, e, z, t⟩ => ⟨p, r, e, h.al _ _ z, PreR.mono h t⟩
theorem Rl.pre {T : Tab} {σ : L2.St} {H : Hp} {r : List Sl} : ∀ {fl : List Bool} {ss : List Sl} {vs : List V} {W : Wo} {m m' : List Cell} {as : List Pre}, Rl T W σ H r m → SlRs T W ss vs → pre fl ss m = .ok (as, m') → ∃ W', Stp W H W' H ∧ Rl T W' σ H r m' ∧ PreR T W' as vs
  | [], [], _, W, m, m', as, R, h, e => by cases e; exact ⟨W, Stp.refl _ _, R, h⟩
  | [], _ :: _, _, W, m, m', as, R, h, e => by simp [Nv.pre] at e
  | true :: fl, [], _, W, m, m', as, R, h, e => by simp [Nv.pre] at e
  | false :: fl, [], _, W, m, m', as, R, h, e => by simp [Nv.pre] at e
  | true :: fl, .ref j :: ss, _, W, m, m', as, R, ⟨v, rr, ev, h1, h2⟩, e => by
    obtain ⟨⟨as', m1⟩, e1, e⟩ := bind_ok e
    cases e
    obtain ⟨W', w, R', z⟩ := Rl.pre R h2 e1
    obtain ⟨p, e2, rfl⟩ := h1
    exact ⟨W', w, R', p, rr, ev, w.w.al _ _ e2, z⟩
  | true :: fl, .un :: ss, _, W, m, m', as, R, _, e => by simp [Nv.pre] at e
  | true :: fl, .val _ :: ss, _, W, m, m', as, R, _, e => by simp [Nv.pre] at e
  | false :: fl, s :: ss, _, W, m, m', as, R, ⟨v, rr, ev, h1, h2⟩, e => by
    have e : (Nv.toD s m >>= fun q => Nv.pre fl ss q.2 >>= fun q2 => Out.ok (Pre.v q.1 :: q2.1, q2.2)) = .ok (as, m') := by
      cases s <;> exact e
    obtain ⟨⟨d, m1⟩, e1, e⟩ := bind_ok e
    obtain ⟨⟨as', m2⟩, e2, e⟩ := bind_ok e
    cases e
    obtain ⟨W1, w1, R1, z1⟩ := R.toD h1 e1
    obtain ⟨W2, w2, R2, z2⟩ := Rl.pre R1 (h2.mono w1.w) e2
    exact ⟨W2, w1.trans w2, R2, v, rr, ev, Rep.mono w2.w.f _ _ z1, z2⟩
theorem Rl.fin {T : Tab} {W : Wo} {σ : L2.St} {H : Hp} {r : List Sl} {m : List Cell} (R : Rl T W σ H r m) : ∀ {ps : List Pre} {vs : List V} {as : List Arg}, PreR T W ps vs → fin m ps = .ok as → ∃ qs, ArgR T W.F H as vs qs ∧ qs.length = (refsOf ps).length ∧ (∀ (i j : Nat), (refsOf ps)[i]? = some j → W.al[j]? = qs[i]?) ∧ ∀ j ∈ refsOf ps, ∃ c : Cell, m[j]? = some c ∧ (c.k = .own ∨ c.k = .bor)
  | [], _, _, h, e => by cases e; exact ⟨[], ⟨h, rfl⟩, rfl, fun i j z => by simp [refsOf] at z, fun j z => by simp [refsOf] at z⟩
  | .v d :: ps, _, _, ⟨v, rr, ev, z, t⟩, e => by
    obtain ⟨as', e1, e⟩ := bind_ok e
    cases e
    obtain ⟨qs, a1, a2, a3, a4⟩ := Rl.fin R t e1
    exact ⟨qs, ⟨v, rr, ev, z, a1⟩, a2, a3, a4⟩
  | .c j :: ps, vs, as, ⟨p, rr, ev, z, t⟩, e => by
    simp only [Nv.fin] at e
    cases q : m[j]? with
    | none => rw [q] at e; cases e
    | some c =>
      rw [q] at e
      have ok := R.ce j c p q z
      have main : ∀ (k : CS) (d : D), c = ⟨k, d⟩ → (k = .own ∨ k = .bor) → (Nv.fin m ps >>= fun r => Out.ok (Arg.b d :: r)) = .ok as → Sh T W.F H p d ∧ W.F p = none → ∃ qs, ArgR T W.F H as vs qs ∧ qs.length = (refsOf (.c j :: ps)).length ∧ (∀ (i i' : Nat), (refsOf (.c j :: ps))[i]? = some i' → W.al[i']? = qs[i]?) ∧ ∀ j' ∈ refsOf (.c j :: ps), ∃ c : Cell, m[j']? = some c ∧ (c.k = .own ∨ c.k = .bor) := by
        intro k d hc hk e' ok'
        obtain ⟨as', e1, e'⟩ := bind_ok e'
        cases e'
        obtain ⟨qs, a1, a2, a3, a4⟩ := Rl.fin R t e1
        refine ⟨p :: qs, ⟨p, rr, qs, ev, rfl, ok', a1⟩, by simp [refsOf, a2], fun i i' h => ?_, fun j' h => ?_⟩
        · cases i with
          | zero => simp [refsOf] at h; subst h; simpa using z
          | succ i => simpa using a3 i i' (by simpa [refsOf] using h)
        · rcases List.mem_cons.mp (show j' ∈ j :: refsOf ps from h) with h | h
          · subst h; exact ⟨c, q, by rw [hc]; exact hk⟩
          · exact a4 j' h
      obtain ⟨k, d⟩ := c
      cases k with
      | own => exact main .own d rfl (.inl rfl) e ok
      | bor => exact main .bor d rfl (.inr rfl) e ok
      | frz => cases e
      | opn b o => cases e
theorem putBack_ok : ∀ {js : List Nat} {ds : List D} {m m' : List Cell}, js.Nodup → putBack js ds m = .ok m' → js.length = ds.length ∧ m'.length = m.length ∧ (∀ (i : Nat), i ∉ js → m'[i]? = m[i]?) ∧ ∀ (i j : Nat) (d : D), js[i]? = some j → ds[i]? = some d → ∃ c : Cell, m[j]? = some c ∧ m'[j]? = some ⟨c.k, d⟩
  | [], [], m, m', _, e => by cases e; exact ⟨rfl, rfl, fun _ _ => rfl, fun i j d h => by simp at h⟩
  | [], _ :: _, _, _, _, e => by simp [putBack] at e
  | _ :: _, [], _, _, _, e => by simp [putBack] at e
  | j :: js, d :: ds, m, m', nd, e => by
    simp only [putBack] at e
    cases q : m[j]? with
    | none => rw [q] at e; cases e
    | some c =>
      rw [q] at e
      obtain ⟨nj, nd'⟩ := List.nodup_cons.mp nd
      obtain ⟨a1, a2, a3, a4⟩ := putBack_ok nd' e
      refine ⟨by simp [a1], by simpa using a2, fun i hi => ?_, fun i j' d' h1 h2 => ?_⟩
      · simp only [List.mem_cons, not_or] at hi
        rw [a3 i hi.2, List.getElem?_set_ne (Ne.symm hi.1)]
      · cases i with
        | zero =>
          simp at h1 h2; subst h1; subst h2
          refine ⟨c, q, ?_⟩
          rw [a3 _ nj, List.getElem?_set_self (lt_of_get q)]
        | succ i =>
          obtain ⟨c', e1, e2⟩ := a4 i j' d' (by simpa using h1) (by simpa using h2)
          have hne : j' ≠ j := fun z => by subst z; exact nj (List.mem_of_getElem? (by simpa using h1))
          rw [List.getElem?_set_ne (Ne.symm hne)] at e1
          exact ⟨c', e1, e2⟩
section
variable {cl : Cl} {X : Cx}
/-- a call whose reading is the callee's promise at the arguments' values -/
theorem call_read {t : TA} {f : SA} {g : Fn} {fl : List Bool} {n : Nat} {tt : TE}
    (h2 : ∀ W σ H r m, Rl ⟨X.K, cl⟩ W σ H r m → ∀ ss m', f r m = .ok (ss, m') → ∀ Q : List V → Hp → Prop, (∀ vs W' H', Stp W H W' H' → Rl ⟨X.K, cl⟩ W' σ H' r m' → SlRs ⟨X.K, cl⟩ W' ss vs → Q vs H') → t σ H Q)
    (hn : fl.length = n) (htt : ∀ σ H Q, t σ H (fun vs H1 => toSp ⟨X.K, cl⟩ n g vs H1 Q E0) → tt σ H Q) :
    ∀ W σ H r m, Rl ⟨X.K, cl⟩ W σ H r m → ∀ s m', sCall fl g f r m = .ok (s, m') → ∀ Q : VK, (∀ v W' H', Stp W H W' H' → Rl ⟨X.K, cl⟩ W' σ H' r m' → SlR ⟨X.K, cl⟩ W' s v → Q v H') → tt σ H Q := by
  intro W σ H r m R s m' e Q k
  obtain ⟨⟨ss, m1⟩, e1, e⟩ := bind_ok e
  obtain ⟨⟨ps, m2⟩, e2, e⟩ := bind_ok e
  obtain ⟨as, e3, e⟩ := bind_ok e
  by_cases hnd : (refsOf ps).Nodup
  · simp only [hnd, if_true] at e
    obtain ⟨⟨d, ds⟩, e4, e⟩ := bind_ok e
    obtain ⟨m3, e5, e⟩ := bind_ok e
    cases e
    refine htt σ H Q (h2 W σ H r m R ss m1 e1 _ fun vs W1 H1 w1 R1 z1 => ?_)
    obtain ⟨W2, w2, R2, z2⟩ := Rl.pre R1 z1 e2
    obtain ⟨qs, a1, a2, a3, a4⟩ := R2.fin z2 e3
    have hlen : ∀ (fl : List Bool) (ss : List Sl) (m m' : List Cell) (ps : List Pre), pre fl ss m = .ok (ps, m') → ps.length = fl.length := by
      intro fl
      induction fl with
      | nil =>
        intro ss m m' ps e
        cases ss with
        | nil => cases e; rfl
        | cons s ss => simp [pre] at e
      | cons b fl ih =>
        intro ss m m' ps e
        cases b with
        | true =>
          cases ss with
          | nil => simp [pre] at e
          | cons s ss =>
            cases s with
            | ref j =>
              obtain ⟨⟨as', m1⟩, q1, e⟩ := bind_ok e
              cases e
              simp [ih _ _ _ _ q1]
            | un => simp [pre] at e
            | val d => simp [pre] at e
        | false =>
          cases ss with
          | nil => simp [pre] at e
          | cons s ss =>
            have e : (toD s m >>= fun q => Nv.pre fl ss q.2 >>= fun q2 => Out.ok (Pre.v q.1 :: q2.1, q2.2)) = .ok (ps, m') := by
              cases s <;> exact e
            obtain ⟨⟨d, m1⟩, q1, e⟩ := bind_ok e
            obtain ⟨⟨as', m2⟩, q2, e⟩ := bind_ok e
            cases e
            simp [ih _ _ _ _ q2]
    have hfin : ∀ (ps : List Pre) (as : List Arg), fin m2 ps = .ok as → as.length = ps.length := by
      intro ps
      induction ps with
      | nil => intro as e; cases e; rfl
      | cons p ps ih =>
        intro as e
        cases p with
        | v d =>
          obtain ⟨as', q1, e⟩ := bind_ok e
          cases e
          simp [ih _ q1]
        | c j =>
          simp only [fin] at e
          cases q : m2[j]? with
          | none => rw [q] at e; cases e
          | some c =>
            rw [q] at e
            obtain ⟨kk, dd⟩ := c
            cases kk with
            | frz => cases e
            | opn b o => cases e
            | own =>
              obtain ⟨as', q1, e⟩ := bind_ok e
              cases e
              simp [ih _ q1]
            | bor =>
              obtain ⟨as', q1, e⟩ := bind_ok e
              cases e
              simp [ih _ q1]
    have nd : qs.Nodup := by
      rw [List.nodup_iff_pairwise_ne, List.pairwise_iff_getElem]
      intro i j hi hj hij he
      have hi' : i < (refsOf ps).length := by omega
      have hj' : j < (refsOf ps).length := by omega
      have x1 := a3 i _ (List.getElem?_eq_getElem hi')
      have x2 := a3 j _ (List.getElem?_eq_getElem hj')
      rw [List.getElem?_eq_getElem hi] at x1
      rw [List.getElem?_eq_getElem hj, ← he] at x2
      have := R2.inj _ _ _ x1 x2
      have := (List.getElem_inj hnd).mp this
      omega
    refine ⟨by rw [a1.len.1, hfin _ _ e3, hlen _ _ _ _ _ e2, hn], W2.F, as, qs, d, ds, R2.le, a1, nd, e4, fun v F' H' ret rep => ?_⟩
    obtain ⟨b1, b2, b3, b4⟩ := putBack_ok hnd e5
    have mem : ∀ (j : Nat) (p : Addr), W2.al[j]? = some p → p ∈ qs → j ∈ refsOf ps := fun j p e hp => by
      obtain ⟨i, hi, hip⟩ := List.getElem_of_mem hp
      have hi' : i < (refsOf ps).length := by omega
      have x1 := a3 i _ (List.getElem?_eq_getElem hi')
      rw [List.getElem?_eq_getElem hi, hip] at x1
      have := R2.inj _ _ _ x1 e
      rw [← this]
      exact List.getElem_mem hi'
    have fnone : ∀ (j : Nat) (p : Addr), W2.al[j]? = some p → W2.F p = none → F' p = none := fun j p e hf => by
      cases q : F' p with
      | none => rfl
      | some o =>
        rcases ret.fr p (by rw [q]; exact fun z => nomatch z) with z | z
        · exact absurd hf z
        · exact absurd z (R2.live j p e)
    have R3 : Rl ⟨X.K, cl⟩ ⟨F', W2.al⟩ σ H' r m' := by
      refine ⟨ret.le, fun i s e n => ?_, R2.len, by rw [b2]; exact R2.ml, fun j c p e1 e2 => ?_, fun j p e => ret.more p (R2.live j p e), R2.inj⟩
      · obtain ⟨u, q1, q2⟩ := R2.sl i s e n
        exact ⟨u, q1, q2.mono (W' := ⟨F', W2.al⟩) ⟨ret.f, fun _ _ z => z⟩⟩
      · have e2 : W2.al[j]? = some p := e2
        by_cases hj : j ∈ refsOf ps
        · obtain ⟨i, hi, hij⟩ := List.getElem_of_mem hj
          have hi2 : i < qs.length := by omega
          have hi3 : i < ds.length := by have b1 : (refsOf ps).length = ds.length := b1; omega
          have x1 := a3 i j (by rw [List.getElem?_eq_getElem hi, hij])
          have x2 : qs[i]? = some p := by rw [← x1]; exact e2
          obtain ⟨c0, y1, y2⟩ := b4 i j _ (by rw [List.getElem?_eq_getElem hi, hij]) (List.getElem?_eq_getElem hi3)
          rw [e1] at y2
          cases y2
          obtain ⟨c1, y3, y4⟩ := a4 j hj
          rw [y1] at y3; cases y3
          have z := ret.ce i p _ x2 (List.getElem?_eq_getElem hi3)
          obtain ⟨k0, d0⟩ := c0
          rcases y4 with y | y <;> cases y <;> exact z
        · rw [b3 j hj] at e1
          have ok := R2.ce j c p e1 e2
          refine ok.mono ret.f (fnone j p e2) fun o ho => ret.keep p o ho fun hp => hj (mem j p e2 hp)
    refine k v ⟨F', W2.al⟩ H' ((w1.trans w2).trans ⟨⟨ret.f, fun _ _ z => z⟩, fun b o e n => ret.keep b o e fun hb => ?_, ret.more, fun _ _ z => .inl z, fun b e => ?_, fun b o f e => ret.keep b o e fun hb => ?_⟩) R3 rep
    · obtain ⟨i, hi, hib⟩ := List.getElem_of_mem hb
      have hi' : i < (refsOf ps).length := by omega
      have x1 := a3 i _ (List.getElem?_eq_getElem hi')
      rw [List.getElem?_eq_getElem hi, hib] at x1
      exact n _ x1
    · rcases ret.fr b e with z | z
      · exact .inl z
      · exact .inr (.inl z)
    · obtain ⟨i, hi, hib⟩ := List.getElem_of_mem hb
      have hi' : i < (refsOf ps).length := by omega
      have x1 := a3 i _ (List.getElem?_eq_getElem hi')
      rw [List.getElem?_eq_getElem hi, hib] at x1
      obtain ⟨c1, y3, y4⟩ := a4 _ (List.getElem_mem hi')
      have ok := R2.ce _ c1 b y3 x1
      obtain ⟨k0, d0⟩ := c1
      rcases y4 with y | y <;> cases y <;> exact f ok.2
  · simp [hnd] at e
variable {k : Nat} {f : Addr} {fd : FuncData} {ps : List Str} {g : Fn} {n : Nat} {x : Str} {p pos : Pos} {e : Expr} {es : List Expr} {fa : SA} {fl : List Bool}
theorem run_fnG {sp : Sp} {E : XK} {pins : List (Addr × Obj)} {σ : L2.St} {H : Hp} {s : Shared} {Q : VK} {us ws : List Value} {kw : List (Str × Value)} {vs : List V} (F : FnG X.prog X.w X.K X.mg X.base k f fd ps sp) (hr : RoomG k X.A)
    (hb : ws.length = ps.length → BindsTo s fd ⟨us, kw⟩ (ps.zip ws)) (I : Inv X pins σ H s) (r : Vals vs ws) (h : sp vs H Q E) : wpAny (model X.prog X.w) X.A (PySem.call (.ref f) us kw) (EP X pins σ Q) X.xe s := by
  have hl : ws.length = ps.length := by rw [← r.length]; exact F.len _ _ _ _ h
  refine wpAny_call (codeAny_mono (F.run X.A X.stack s H ⟨us, kw⟩ ws vs Q E hr I.env0 (hb hl) r h) fun r s' hq => ?_)
  cases r with
  | error e => exact False.elim hq
  | ok fl => cases fl with
    | ret u => exact I.after hq
    | _ => exact False.elim hq
theorem de_call (F : FnG X.prog X.w X.K X.mg X.base k f fd ps (toSp ⟨X.K, cl⟩ n g)) (hr : RoomG k X.A) (hg : Gl X x) (hm : X.mg x = some (.ref f)) (hk : PySem.W.keepIn X.K (.ref f) = true) (hb : Binds X.K fd ps []) (fl : List Bool) (hn : fl.length = n) (ha : DA cl X (e :: es) fa)
    (hdb : (x == ("__debug__" : Str)) = false := by decide) (he : starEach (e :: es) X.env = (false, eval e X.env) :: starEach es X.env := by rfl) (hpl : (backTo pos (starEach es X.env)).any (·.1) = false := by rfl) :
    DE cl X (.Call (.Name x p) (e :: es) [] pos) (sCall fl g fa) := by
  obtain ⟨t, h1, h2⟩ := ha.ex
  refine ⟨fun σ H Q => t σ H fun vs H1 => toSp ⟨X.K, cl⟩ n g vs H1 Q E0, ⟨fun pins s σ H Q I h => ?_⟩, call_read h2 hn fun σ H Q h => h⟩
  refine wpAny_Call_Name_kw (ld_glob I hg hm ?_ hdb)
  refine PySem.W.callWith_K (h₀ := X.base) I.ok.mod.kin hk (thn (h1.run pos pins s σ H _ I h) fun us s1 ⟨vs, H1, I1, r, q⟩ => ⟨I1.kIn, ?_⟩) he hpl
  exact run_fnG F hr (fun hl => by have := hb s1 us I1.kIn (by rw [List.append_nil]; exact hl); rwa [List.append_nil] at this) I1 r q
end
end Nv
set_option Elab.async false
set_option linter.all false
set_option maxRecDepth 100000
set_option maxHeartbeats 4000000
namespace Nv
open PySem L2
/-! ### data as the library's data -/
mutual
def D.py : D → Option PyData
  | .non => some .none
  | .bl b => some (.bool b)
  | .int i => some (.int i)
  | .str x => some (.str x)
  | .lst xs => (pyAll xs).map .list
  | .tup xs => (pyAll xs).map .tuple
  | .dct ks => (pyKv ks).map .dict
  | .ins _ _ => none
  | .scr _ => none
  | .cls _ => none
  | .exc _ _ => none
def pyAll : List D → Option (List PyData)
  | [] => some []
  | d :: ds => match d.py, pyAll ds with
    | some p, some ps => some (p :: ps)
    | _, _ => none
def pyKv : List (Key × D) → Option (List (PyData × PyData))
  | [] => some []
  | (k, d) :: ds => match d.py, pyKv ds with
    | some p, some ps => some ((match k with | .inl i => .int i | .inr x => .str x, p) :: ps)
    | _, _ => none
end
theorem pyAll_cons {d : D} {ds : List D} {ps : List PyData} (h : pyAll (d :: ds) = some ps) : ∃ p qs, d.py = some p ∧ pyAll ds = some qs ∧ ps = p :: qs := by
  simp only [pyAll] at h
  cases h1 : d.py with
  | none => rw [h1] at h; cases h
  | some p =>
    cases h2 : pyAll ds with
    | none => rw [h1, h2] at h; cases h
    | some qs => rw [h1, h2] at h; cases h; exact ⟨p, qs, rfl, rfl, rfl⟩
theorem map_some {A B : Type} {f : A → B} {o : Option A} {b : B} (h : o.map f = some b) : ∃ a, o = some a ∧ f a = b := by
  cases o with
  | none => cases h
  | some a => cases h; exact ⟨a, rfl, rfl⟩
section
variable {T : Tab} {F H : Hp}
mutual
theorem Rep.dp (le : Le F H) : ∀ (d : D) (v : V) (p : PyData), Rep T F d v → d.py = some p → p.canLay0 = true → Dp T.K H v p
  | .non, _, _, h, e, _ => by simp only [D.py] at e; cases h; cases e; exact .non
  | .bl b, _, _, h, e, _ => by simp only [D.py] at e; cases h; cases e; exact .bl b
  | .int i, _, _, h, e, _ => by simp only [D.py] at e; cases h; cases e; exact .int i
  | .str x, _, _, h, e, _ => by simp only [D.py] at e; cases h; cases e; exact .str x
  | .lst ds, _, _, h, e, c => by
    simp only [D.py] at e
    obtain ⟨ps, e1, rfl⟩ := map_some e
    simp only [Rep] at h
    obtain ⟨a, vs, rfl, s, r⟩ := h
    simp only [PyData.canLay0] at c
    exact .lst (.inl (le.rdL s)) (Reps.dp le ds vs ps r e1 c)
  | .tup ds, _, _, h, e, c => by
    simp only [D.py] at e
    obtain ⟨ps, e1, rfl⟩ := map_some e
    simp only [Rep] at h
    obtain ⟨a, vs, rfl, s, r⟩ := h
    simp only [PyData.canLay0] at c
    exact .tup (le.sqT s) (Reps.dp le ds vs ps r e1 c)
  | .dct ks, _, _, h, e, c => by
    simp only [D.py] at e
    obtain ⟨ps, e1, rfl⟩ := map_some e
    simp [PyData.canLay0] at c
  | .ins _ _, _, _, _, e, _ => by simp only [D.py] at e; cases e
  | .scr _, _, _, _, e, _ => by simp only [D.py] at e; cases e
  | .cls _, _, _, _, e, _ => by simp only [D.py] at e; cases e
  | .exc _ _, _, _, _, e, _ => by simp only [D.py] at e; cases e
theorem Reps.dp (le : Le F H) : ∀ (ds : List D) (vs : List V) (ps : List PyData), Reps T F ds vs → pyAll ds = some ps → PyData.canLayAll0 ps = true → DpAll T.K H vs ps
  | [], _, _, h, e, _ => by simp only [pyAll] at e; cases h; cases e; exact .nil
  | d :: ds, _, _, h, e, c => by
    obtain ⟨p, qs, e1, e2, rfl⟩ := pyAll_cons e
    simp only [Reps] at h
    obtain ⟨v, r, rfl, z, t⟩ := h
    simp only [PyData.canLayAll0, Bool.and_eq_true] at c
    exact .cons (Rep.dp le d v p z e1 c.1) (Reps.dp le ds r qs t e2 c.2)
end
theorem ShV.dp (le : Le F H) {d : D} {v : V} {p : PyData} (h : ShV T F H d v) (e : d.py = some p) (c : p.canLay0 = true) : Dp T.K H v p := by
  rcases h with h | ⟨a, rfl, h⟩
  · exact Rep.dp le d v p h e c
  · cases d with
    | lst ds =>
      obtain ⟨vs, s, r⟩ := h
      simp only [D.py] at e
      obtain ⟨ps, e1, rfl⟩ := map_some e
      simp only [PyData.canLay0] at c
      exact .lst (.inl (.inl s)) (Reps.dp le ds vs ps r e1 c)
    | dct ks =>
      simp only [D.py] at e
      obtain ⟨ps, e1, rfl⟩ := map_some e
      simp [PyData.canLay0] at c
    | ins _ _ => simp only [D.py] at e; cases e
    | _ => exact h.elim
end
section
variable {cl : Cl} {X : Cx}
theorem OpD.or {T : Tab} {r r' : R2} {op op' : D → D → Out D} (h : OpD T r op) (h' : OpD T r' op') (o : D → D → Out D) (ho : ∀ x y d, o x y = .ok d → op x y = .ok d ∨ op' x y = .ok d) : OpD T (fun x y H Q => r x y H Q ∨ r' x y H Q) o := by
  intro F H x y dx dy d le hx hy e Q k1 k2
  rcases ho _ _ _ e with e | e
  · exact .inl (h F H x y dx dy d le hx hy e Q k1 k2)
  · exact .inr (h' F H x y dx dy d le hx hy e Q k1 k2)
theorem OpF.d {T : Tab} {r : R2} {op : D → D → Out D} (h : OpF T r op) : OpD T r op := by
  intro F H x y dx dy d le hx hy e Q k1 k2
  refine h F H x y dx dy d le hx hy e Q fun p o hp hf sh => ?_
  obtain ⟨o', e1, z⟩ := sh.frz hf
  rw [upd_same] at e1; cases e1
  exact k2 p o hp hf z
/-! ### + -/
def addI : D → D → Out D
  | .int i, .int j => .ok (.int (i + j))
  | _, _ => .bad
def addS : D → D → Out D
  | .str x, .str y => if x.length + y.length ≤ sizeLine then .ok (.str (x ++ y)) else .bad
  | _, _ => .bad
def addL : D → D → Out D
  | .lst xs, .lst ys => if xs.length + ys.length ≤ sizeLine then .ok (.lst (xs ++ ys)) else .bad
  | _, _ => .bad
def addT : D → D → Out D
  | .tup (x :: xs), .tup ys => if (x :: xs).length + ys.length ≤ sizeLine then .ok (.tup (x :: xs ++ ys)) else .bad
  | _, _ => .bad
def dAdd (x y : D) : Out D := match x, y with
  | .int _, .int _ => addI x y
  | .str _, .str _ => addS x y
  | .lst _, .lst _ => addL x y
  | .tup _, .tup _ => addT x y
  | _, _ => .bad
theorem od_addI {T : Tab} : OpD T (rI0 fun i j => .int (i + j)) addI := by
  intro F H x y dx dy d le hx hy e Q k1 k2
  cases dx with
  | int i => cases dy with
    | int j => cases e; cases hx.int; cases hy.int; exact ⟨i, j, rfl, rfl, k1 _ rfl⟩
    | _ => cases e
  | _ => cases e
theorem od_addS {T : Tab} : OpD T (fun x y H Q => ∃ i j, x = .str i ∧ y = .str j ∧ i.length + j.length ≤ sizeLine ∧ Q (.str (i ++ j)) H) addS := by
  intro F H x y dx dy d le hx hy e Q k1 k2
  cases dx with
  | str i => cases dy with
    | str j =>
      obtain ⟨hz, e⟩ := ite_ok e
      cases e; cases hx.str; cases hy.str; exact ⟨i, j, rfl, rfl, hz, k1 _ rfl⟩
    | _ => cases e
  | _ => cases e
theorem Reps.append {T : Tab} {F : Hp} : ∀ {ds es : List D} {vs us : List V}, Reps T F ds vs → Reps T F es us → Reps T F (ds ++ es) (vs ++ us)
  | [], _, _, _, h, h' => by cases h; exact h'
  | _ :: _, _, _, _, h, h' => by
    obtain ⟨v, r, rfl, z, t⟩ := h
    exact ⟨v, r ++ _, rfl, z, Reps.append t h'⟩
/-- a list to be read, tracked or locked -/
def rCatR : R2 := fun x y H Q => ∃ l b xs zs, x = .ref l ∧ y = .ref b ∧ Rd H l (.lst xs) ∧ Rd H b (.lst zs) ∧ xs.length + zs.length ≤ sizeLine ∧ ∀ p, H p = none → Q (.ref p) (upd H p (.lst (xs ++ zs)))
theorem op_catR : OpR X (binaryOp .Add) rCatR := by
  intro pins s σ H x y v u Q I rx ry h
  obtain ⟨l, b, xs, zs, rfl, rfl, hH, hB, hz, q⟩ := h
  cases rx
  cases ry
  obtain ⟨z, its, n, r, e⟩ := hH.ok I.hok
  obtain ⟨z2, its2, n2, r2, e2⟩ := hB.ok I.hok
  have hl := r.length
  have hl2 := r2.length
  refine PySem.P.add_list e e2 ?_ (by rw [List.size_toArray, List.size_toArray]; omega)
  have ea : its.toArray ++ its2.toArray = (its ++ its2).toArray := by simp
  rw [ea]
  exact ⟨.ref _, _, I.lnew (t' := s.toks) (r.append r2) (by rw [List.length_append]; omega), rfl, q _ I.fresh⟩
theorem of_addL {T : Tab} : OpF T rCatR addL := by
  intro F H x y dx dy d le hx hy e Q k
  cases dx with
  | lst xs => cases dy with
    | lst ys =>
      obtain ⟨hz, e⟩ := ite_ok e
      cases e
      obtain ⟨p, vs, rfl, s, r⟩ := hx.lst le
      obtain ⟨p', vs', rfl, s', r'⟩ := hy.lst le
      exact ⟨p, p', vs, vs', rfl, rfl, s, s', by rw [r.length, r'.length]; exact hz, fun q hq => k q _ hq (le.none hq) ⟨_, upd_same, r.append r'⟩⟩
    | _ => cases e
  | _ => cases e
theorem od_addT : OpD ⟨X.K, cl⟩ (rCatT X.K) addT := by
  intro F H x y dx dy d le hx hy e Q k1 k2
  cases dx with
  | tup xs => cases xs with
    | nil => cases dy <;> cases e
    | cons x0 xs => cases dy with
      | tup ys =>
        obtain ⟨hz, e⟩ := ite_ok e
        cases e
        obtain ⟨p, vs, rfl, s, r⟩ := hx.tup le
        obtain ⟨p', vs', rfl, s', r'⟩ := hy.tup le
        refine ⟨p, p', vs, vs', rfl, rfl, s, s', fun z => ?_, by rw [r.length, r'.length]; exact hz, fun z => ?_, fun z q hq => ?_⟩
        · have := r.length; rw [z] at this; cases this
        · have hl := r'.length
          rw [z] at hl
          have hy0 : ys = [] := by cases ys with | nil => rfl | cons _ _ => cases hl
          subst hy0
          rcases hx with hx | ⟨_, _, hx⟩
          · exact k1 _ (by simpa using hx)
          · exact hx.elim
        · refine k2 q _ hq (le.none hq) ?_
          simp only [Rep]
          exact ⟨q, vs ++ vs', rfl, .inl (.inl upd_same), Reps.mono (Same.upd_new (le.none hq)) _ _ (r.append r')⟩
      | _ => cases e
  | _ => cases e
abbrev rAddAll (K : PySem.W.Frag) : R2 := fun x y H Q => ((rI0 fun i j => .int (i + j)) x y H Q ∨ (∃ i j, x = .str i ∧ y = .str j ∧ i.length + j.length ≤ sizeLine ∧ Q (.str (i ++ j)) H)) ∨ (rCatR x y H Q ∨ rCatT K x y H Q)
theorem op_addAll : OpR X (binaryOp .Add) (rAddAll X.K) := (op_add.or op_add_str).or (op_catR.or op_catT)
theorem od_addAll : OpD ⟨X.K, cl⟩ (rAddAll X.K) dAdd := by
  intro F H x y dx dy d le hx hy e Q k1 k2
  cases dx with
  | int i => cases dy with
    | int j => exact .inl (.inl (od_addI F H x y _ _ d le hx hy e Q k1 k2))
    | _ => cases e
  | str i => cases dy with
    | str j => exact .inl (.inr (od_addS F H x y _ _ d le hx hy e Q k1 k2))
    | _ => cases e
  | lst i => cases dy with
    | lst j => exact .inr (.inl (of_addL.d F H x y _ _ d le hx hy e Q k1 k2))
    | _ => cases e
  | tup i => cases dy with
    | tup j => exact .inr (.inr (od_addT F H x y _ _ d le hx hy e Q k1 k2))
    | _ => cases e
  | _ => cases e
theorem de_add {a b : Expr} {fa fb : SE} {pos : Pos} (ha : DE cl X a fa) (hb : DE cl X b fb) : DE cl X (.BinOp a .Add b pos) (sOp dAdd fa fb) := de_op op_addAll od_addAll ha hb
/-! ### other operations on ints -/
def opII (C : Int → Int → Bool) (g : Int → Int → Int) : D → D → Out D
  | .int i, .int j => if C i j = true then .ok (.int (g i j)) else .bad
  | _, _ => .bad
theorem od_II {T : Tab} {C : Int → Int → Prop} {c : Int → Int → Bool} {g : Int → Int → Int} (h : ∀ i j, c i j = true → C i j) : OpD T (rI C fun i j => .int (g i j)) (opII c g) := by
  intro F H x y dx dy d le hx hy e Q k1 k2
  cases dx with
  | int i => cases dy with
    | int j =>
      obtain ⟨hz, e⟩ := ite_ok e
      cases e; cases hx.int; cases hy.int; exact ⟨i, j, rfl, rfl, h i j hz, k1 _ rfl⟩
    | _ => cases e
  | _ => cases e
def dSub : D → D → Out D
  | .int i, .int j => .ok (.int (i - j))
  | _, _ => .bad
theorem od_sub {T : Tab} : OpD T (rI0 fun i j => .int (i - j)) dSub := by
  intro F H x y dx dy d le hx hy e Q k1 k2
  cases dx with
  | int i => cases dy with
    | int j => cases e; cases hx.int; cases hy.int; exact ⟨i, j, rfl, rfl, k1 _ rfl⟩
    | _ => cases e
  | _ => cases e
theorem de_sub {a b : Expr} {fa fb : SE} {pos : Pos} (ha : DE cl X a fa) (hb : DE cl X b fb) : DE cl X (.BinOp a .Sub b pos) (sOp dSub fa fb) := de_op op_sub od_sub ha hb
def dMul : D → D → Out D := opII (fun i j => decide ((-(2 ^ 64) < i ∧ i < 2 ^ 64) ∨ (-(2 ^ 64) < j ∧ j < 2 ^ 64))) fun i j => i * j
theorem de_mul {a b : Expr} {fa fb : SE} {pos : Pos} (ha : DE cl X a fa) (hb : DE cl X b fb) : DE cl X (.BinOp a .Mult b pos) (sOp dMul fa fb) :=
  de_op op_mul (od_II fun i j h => by have h : decide ((-(2 ^ 64) < i ∧ i < 2 ^ 64) ∨ (-(2 ^ 64) < j ∧ j < 2 ^ 64)) = true := h; have h2 := of_decide_eq_true h; exact h2) ha hb
def dFdiv : D → D → Out D := opII (fun i j => decide (0 < j ∧ j < 1073741824)) fun i j => i / j
theorem de_fdiv {a b : Expr} {fa fb : SE} {pos : Pos} (ha : DE cl X a fa) (hb : DE cl X b fb) : DE cl X (.BinOp a .FloorDiv b pos) (sOp dFdiv fa fb) :=
  de_op op_fdiv (od_II fun i j h => by have h : decide (0 < j ∧ j < 1073741824) = true := h; have h2 := of_decide_eq_true h; exact h2) ha hb
def dMod : D → D → Out D := opII (fun i j => decide (0 < j)) fun i j => i % j
theorem de_mod {a b : Expr} {fa fb : SE} {pos : Pos} (ha : DE cl X a fa) (hb : DE cl X b fb) : DE cl X (.BinOp a .Mod b pos) (sOp dMod fa fb) :=
  de_op op_mod (od_II fun i j h => of_decide_eq_true h) ha hb
def dPow : D → D → Out D := opII (fun i j => decide (0 ≤ j ∧ j ≤ 1000000 ∧ i.natAbs < 2 ^ 64)) fun i j => i ^ j.toNat
theorem de_pow {a b : Expr} {fa fb : SE} {pos : Pos} (ha : DE cl X a fa) (hb : DE cl X b fb) : DE cl X (.BinOp a .Pow b pos) (sOp dPow fa fb) :=
  de_op op_pow (od_II fun i j h => by have h : decide (0 ≤ j ∧ j ≤ 1000000 ∧ i.natAbs < 2 ^ 64) = true := h; have h2 := of_decide_eq_true h; exact h2) ha hb
/-! ### comparisons -/
def cmpI (p : Int → Int → Bool) : D → D → Out D
  | .int i, .int j => .ok (.bl (p i j))
  | _, _ => .bad
theorem od_cmpI {T : Tab} {p : Int → Int → Bool} : OpD T (rI0 fun i j => .bl (p i j)) (cmpI p) := by
  intro F H x y dx dy d le hx hy e Q k1 k2
  cases dx with
  | int i => cases dy with
    | int j => cases e; cases hx.int; cases hy.int; exact ⟨i, j, rfl, rfl, k1 _ rfl⟩
    | _ => cases e
  | _ => cases e
abbrev dLt : D → D → Out D := cmpI fun i j => decide (i < j)
abbrev dLe : D → D → Out D := cmpI fun i j => decide (i ≤ j)
abbrev dGt : D → D → Out D := cmpI fun i j => decide (j < i)
abbrev dGe : D → D → Out D := cmpI fun i j => decide (j ≤ i)
/-! data of some depth (the kit's bound for it is less) -/
namespace SeqAt
def shaped (d : PyData) : Bool := d.canLay0 && decide (d.depth ≤ 180)
theorem canLay_of_shaped {d : PyData} (h : shaped d = true) : d.canLay0 = true := (Bool.and_eq_true_iff.mp h).1
theorem depth_of_shaped {d : PyData} (h : shaped d = true) : d.depth ≤ 180 := of_decide_eq_true (Bool.and_eq_true_iff.mp h).2
end SeqAt
theorem room_180 {A : Around} {d e : PyData} (h : SeqAt.shaped d = true) (hu : A.units + 190 < cLine) : A.units + min d.depth e.depth < cLine := by
  have h1 := SeqAt.depth_of_shaped h
  have h2 : min d.depth e.depth ≤ d.depth := Nat.min_le_left _ _
  omega
theorem room_181 {A : Around} {d : PyData} {xs : List PyData} (h : SeqAt.shaped d = true) (hu : A.units + 190 < cLine) : A.units + 1 + min (PyData.depthAll xs) d.depth < cLine := by
  have h1 := SeqAt.depth_of_shaped h
  have h2 : min (PyData.depthAll xs) d.depth ≤ d.depth := Nat.min_le_right _ _
  omega
def rEqD (K : PySem.W.Frag) : R2 := fun x y H Q => ∃ d e, Dp K H x d ∧ Dp K H y e ∧ SeqAt.shaped d = true ∧ SeqAt.shaped e = true ∧ Q (.bl (PyData.eqv d e)) H
def rNeD (K : PySem.W.Frag) : R2 := fun x y H Q => ∃ d e, Dp K H x d ∧ Dp K H y e ∧ SeqAt.shaped d = true ∧ SeqAt.shaped e = true ∧ Q (.bl (!PyData.eqv d e)) H
def rInD (K : PySem.W.Frag) : R2 := fun x y H Q => ∃ d ds, Dp K H x d ∧ Dp K H y (.list ds) ∧ SeqAt.shaped d = true ∧ SeqAt.shaped (.list ds) = true ∧ Q (.bl (ds.any fun z => PyData.eqv z d)) H
def rNotInD (K : PySem.W.Frag) : R2 := fun x y H Q => ∃ d ds, Dp K H x d ∧ Dp K H y (.list ds) ∧ SeqAt.shaped d = true ∧ SeqAt.shaped (.list ds) = true ∧ Q (.bl (!ds.any fun z => PyData.eqv z d)) H
theorem op_eqD (hu : X.A.units + 190 < cLine) : OpR X (compareOp .Eq) (rEqD X.K) := by
  intro pins s σ H x y v u Q I rx ry h
  obtain ⟨d, e, hd, he, sd, se, q⟩ := h
  obtain ⟨as, r1⟩ := Dp.reads I d x v hd rx
  obtain ⟨bs, r2⟩ := Dp.reads I e y u he ry
  exact SeqAt.compareEq_reads r1 r2 (SeqAt.canLay_of_shaped sd) (SeqAt.canLay_of_shaped se) (room_180 sd hu) ⟨.bl _, H, I, rfl, q⟩
theorem op_neD (hu : X.A.units + 190 < cLine) : OpR X (compareOp .NotEq) (rNeD X.K) := by
  intro pins s σ H x y v u Q I rx ry h
  obtain ⟨d, e, hd, he, sd, se, q⟩ := h
  obtain ⟨as, r1⟩ := Dp.reads I d x v hd rx
  obtain ⟨bs, r2⟩ := Dp.reads I e y u he ry
  exact SeqAt.compareNe_reads r1 r2 (SeqAt.canLay_of_shaped sd) (SeqAt.canLay_of_shaped se) (room_180 sd hu) ⟨.bl _, H, I, rfl, q⟩
theorem op_inD (hu : X.A.units + 190 < cLine) : OpR X (compareOp .In) (rInD X.K) := by
  intro pins s σ H x y v u Q I rx ry h
  obtain ⟨d, ds, hd, he, sd, se, q⟩ := h
  obtain ⟨as, r1⟩ := Dp.reads I d x v hd rx
  obtain ⟨bs, r2⟩ := Dp.reads I (.list ds) y u he ry
  exact SeqAt.in_list_reads r2 r1 (SeqAt.canLay_of_shaped se) (SeqAt.canLay_of_shaped sd) (room_181 sd hu) ⟨.bl _, H, I, rfl, q⟩
theorem op_notInD (hu : X.A.units + 190 < cLine) : OpR X (compareOp .NotIn) (rNotInD X.K) := by
  intro pins s σ H x y v u Q I rx ry h
  obtain ⟨d, ds, hd, he, sd, se, q⟩ := h
  obtain ⟨as, r1⟩ := Dp.reads I d x v hd rx
  obtain ⟨bs, r2⟩ := Dp.reads I (.list ds) y u he ry
  exact SeqAt.notIn_list_reads r2 r1 (SeqAt.canLay_of_shaped se) (SeqAt.canLay_of_shaped sd) (room_181 sd hu) ⟨.bl _, H, I, rfl, q⟩
/-- == by data -/
def dEqB (d e : D) : Out Bool := match d.py, e.py with
  | some p, some q => if SeqAt.shaped p = true ∧ SeqAt.shaped q = true then .ok (PyData.eqv p q) else .bad
  | _, _ => .bad
def dEq (d e : D) : Out D := do let b ← dEqB d e; .ok (.bl b)
def dNe (d e : D) : Out D := do let b ← dEqB d e; .ok (.bl (!b))
theorem dEqB_ok {d e : D} {b : Bool} (h : dEqB d e = .ok b) : ∃ p q, d.py = some p ∧ e.py = some q ∧ SeqAt.shaped p = true ∧ SeqAt.shaped q = true ∧ b = PyData.eqv p q := by
  unfold dEqB at h
  cases h1 : d.py with
  | none => rw [h1] at h; cases h
  | some p =>
    cases h2 : e.py with
    | none => rw [h1, h2] at h; cases h
    | some q =>
      rw [h1, h2] at h
      obtain ⟨z, h⟩ := ite_ok h
      exact ⟨p, q, rfl, rfl, z.1, z.2, h.symm⟩
theorem od_eq : OpD ⟨X.K, cl⟩ (rEqD X.K) dEq := by
  intro F H x y dx dy d le hx hy e Q k1 k2
  obtain ⟨b, e1, e⟩ := bind_ok e
  cases e
  obtain ⟨p, q, h1, h2, s1, s2, rfl⟩ := dEqB_ok e1
  exact ⟨p, q, hx.dp le h1 (SeqAt.canLay_of_shaped s1), hy.dp le h2 (SeqAt.canLay_of_shaped s2), s1, s2, k1 _ rfl⟩
theorem od_ne : OpD ⟨X.K, cl⟩ (rNeD X.K) dNe := by
  intro F H x y dx dy d le hx hy e Q k1 k2
  obtain ⟨b, e1, e⟩ := bind_ok e
  cases e
  obtain ⟨p, q, h1, h2, s1, s2, rfl⟩ := dEqB_ok e1
  exact ⟨p, q, hx.dp le h1 (SeqAt.canLay_of_shaped s1), hy.dp le h2 (SeqAt.canLay_of_shaped s2), s1, s2, k1 _ rfl⟩
/-- in: a list of data; a tuple of flat things; a sign in a text -/
def flatD : D → Bool
  | .non => true
  | .bl _ => true
  | .int _ => true
  | .str _ => true
  | _ => false
def eqF : D → D → Bool
  | .non, .non => true
  | .bl a, .bl b => a == b
  | .bl a, .int b => (if a then 1 else 0) == b
  | .int a, .bl b => a == (if b then 1 else 0)
  | .int a, .int b => a == b
  | .str a, .str b => a == b
  | _, _ => false
def inL (d e : D) : Out Bool := match e with
  | .lst ds => match d.py, pyAll ds with
    | some p, some qs => if SeqAt.shaped p = true ∧ SeqAt.shaped (.list qs) = true then .ok (qs.any fun z => PyData.eqv z p) else .bad
    | _, _ => .bad
  | _ => .bad
def inT (d e : D) : Out Bool := match e with
  | .tup ds => if flatD d = true ∧ ds.all flatD = true then .ok (ds.any fun z => eqF z d) else .bad
  | _ => .bad
def inS (d e : D) : Out Bool := match d, e with
  | .str x, .str y => match x.cps.toList with
    | [c] => .ok (decide (c ∈ y.cps.toList))
    | _ => .bad
  | _, _ => .bad
def inB (d e : D) : Out Bool := match e with
  | .lst _ => inL d e
  | .tup _ => inT d e
  | .str _ => inS d e
  | _ => .bad
def dIn (d e : D) : Out D := do let b ← inB d e; .ok (.bl b)
def dNotIn (d e : D) : Out D := do let b ← inB d e; .ok (.bl (!b))
theorem inL_ok {d e : D} {b : Bool} (h : inL d e = .ok b) : ∃ ds p qs, e = .lst ds ∧ d.py = some p ∧ pyAll ds = some qs ∧ SeqAt.shaped p = true ∧ SeqAt.shaped (.list qs) = true ∧ b = qs.any fun z => PyData.eqv z p := by
  cases e with
  | lst ds =>
    simp only [inL] at h
    cases h1 : d.py with
    | none => rw [h1] at h; cases h
    | some p =>
      cases h2 : pyAll ds with
      | none => rw [h1, h2] at h; cases h
      | some q =>
        rw [h1, h2] at h
        obtain ⟨z, h⟩ := ite_ok h
        exact ⟨ds, p, q, rfl, rfl, h2, z.1, z.2, h.symm⟩
  | _ => cases h
theorem flat_eq {T : Tab} {F : Hp} {d e : D} {v u : V} (hd : Rep T F d v) (he : Rep T F e u) (fd : flatD d = true) (fe : flatD e = true) : eqV v u = eqF d e ∧ flatV v = true := by
  cases d <;> first | (cases fd; done) | skip
  all_goals cases e <;> first | (cases fe; done) | skip
  all_goals (simp only [Rep] at hd he; subst hd; subst he; exact ⟨rfl, rfl⟩)
theorem flat_any {T : Tab} {F : Hp} {e : D} {u : V} (he : Rep T F e u) (fe : flatD e = true) : ∀ {ds : List D} {vs : List V}, Reps T F ds vs → ds.all flatD = true → inV u vs = (ds.any fun z => eqF z e) ∧ vs.all flatV = true
  | [], _, h, _ => by cases h; exact ⟨rfl, rfl⟩
  | d :: ds, _, h, f => by
    obtain ⟨v, r, rfl, z, t⟩ := h
    rw [List.all_cons, Bool.and_eq_true] at f
    obtain ⟨h1, h2⟩ := flat_any he fe t f.2
    obtain ⟨g1, g2⟩ := flat_eq z he f.1 fe
    unfold inV at h1 ⊢
    rw [List.any_cons, List.any_cons, g1, h1, List.all_cons, g2, h2]
    exact ⟨rfl, rfl⟩
theorem flat_rep {T : Tab} {F H : Hp} {d : D} {v : V} (h : ShV T F H d v) (f : flatD d = true) : Rep T F d v := by
  rcases h with h | ⟨p, _, h⟩
  · exact h
  · cases d <;> first | (cases f; done) | exact h.elim
def rInAll (K : PySem.W.Frag) : R2 := fun x y H Q => Nv.rInD K x y H Q ∨ rIn K false x y H Q ∨ ∃ (c : Nat) (z : Str), x = .str ⟨#[c]⟩ ∧ y = .str z ∧ Q (.bl (decide (c ∈ z.cps.toList))) H
def rNotInAll (K : PySem.W.Frag) : R2 := fun x y H Q => Nv.rNotInD K x y H Q ∨ rIn K true x y H Q ∨ ∃ (c : Nat) (z : Str), x = .str ⟨#[c]⟩ ∧ y = .str z ∧ Q (.bl (!decide (c ∈ z.cps.toList))) H
theorem op_inAll (hu : X.A.units + 190 < cLine) : OpR X (compareOp .In) (rInAll X.K) := (Nv.op_inD hu).or (op_in_seq.or op_in_sign)
theorem op_notInAll (hu : X.A.units + 190 < cLine) : OpR X (compareOp .NotIn) (rNotInAll X.K) := (Nv.op_notInD hu).or (op_notIn_seq.or op_notIn_sign)
theorem in_parts {F H : Hp} {x y : V} {dx dy : D} {b : Bool} (le : Le F H) (hx : ShV ⟨X.K, cl⟩ F H dx x) (hy : ShV ⟨X.K, cl⟩ F H dy y) (e : inB dx dy = .ok b) :
    (∃ d ds, Dp X.K H x d ∧ Dp X.K H y (.list ds) ∧ SeqAt.shaped d = true ∧ SeqAt.shaped (.list ds) = true ∧ b = ds.any fun z => PyData.eqv z d) ∨
    (∃ p xs, y = .ref p ∧ (SqL X.K H p xs ∨ SqT X.K H p xs) ∧ flatV x = true ∧ xs.all flatV = true ∧ b = inV x xs) ∨
    ∃ (c : Nat) (z : Str), x = .str ⟨#[c]⟩ ∧ y = .str z ∧ b = decide (c ∈ z.cps.toList) := by
  cases dy with
  | lst ds =>
    obtain ⟨ds', p, qs, e0, h1, h2, s1, s2, e1⟩ := inL_ok (show inL dx (.lst ds) = .ok b from e)
    cases e0
    exact .inl ⟨p, qs, hx.dp le h1 (SeqAt.canLay_of_shaped s1), hy.dp le (by simp only [D.py, h2]; rfl) (SeqAt.canLay_of_shaped s2), s1, s2, e1⟩
  | tup ds =>
    have e : inT dx (.tup ds) = .ok b := e
    simp only [inT] at e
    obtain ⟨z, e⟩ := ite_ok e
    obtain ⟨p, vs, rfl, s, r⟩ := hy.tup le
    have hxr := flat_rep hx z.1
    obtain ⟨h1, h2⟩ := flat_any hxr z.1 r z.2
    have h3 : flatV x = true := (flat_eq hxr hxr z.1 z.1).2
    exact .inr (.inl ⟨p, vs, rfl, .inr s, h3, h2, by rw [h1]; exact e.symm⟩)
  | str z =>
    have e : inS dx (.str z) = .ok b := e
    cases dx with
    | str w =>
      simp only [inS] at e
      cases q : w.cps.toList with
      | nil => rw [q] at e; cases e
      | cons c t =>
        cases t with
        | cons _ _ => rw [q] at e; cases e
        | nil =>
          rw [q] at e; cases e
          cases hy.str
          have hw : w = ⟨#[c]⟩ := by
            cases w with
            | mk a => congr 1; apply Array.toList_inj.mp; simpa using q
          exact .inr (.inr ⟨c, z, by rw [hx.str, hw], rfl, rfl⟩)
    | _ => cases e
  | _ => cases e
theorem od_in : OpD ⟨X.K, cl⟩ (rInAll X.K) dIn := by
  intro F H x y dx dy d le hx hy e Q k1 k2
  obtain ⟨b, e1, e⟩ := bind_ok e
  cases e
  rcases in_parts le hx hy e1 with ⟨p, qs, a1, a2, a3, a4, rfl⟩ | ⟨p, xs, a1, a2, a3, a4, rfl⟩ | ⟨c, z, a1, a2, rfl⟩
  · exact .inl ⟨p, qs, a1, a2, a3, a4, k1 _ rfl⟩
  · exact .inr (.inl ⟨p, xs, a1, a2, a3, a4, k1 _ rfl⟩)
  · exact .inr (.inr ⟨c, z, a1, a2, k1 _ rfl⟩)
theorem od_notIn : OpD ⟨X.K, cl⟩ (rNotInAll X.K) dNotIn := by
  intro F H x y dx dy d le hx hy e Q k1 k2
  obtain ⟨b, e1, e⟩ := bind_ok e
  cases e
  rcases in_parts le hx hy e1 with ⟨p, qs, a1, a2, a3, a4, rfl⟩ | ⟨p, xs, a1, a2, a3, a4, rfl⟩ | ⟨c, z, a1, a2, rfl⟩
  · exact .inl ⟨p, qs, a1, a2, a3, a4, k1 _ rfl⟩
  · exact .inr (.inl ⟨p, xs, a1, a2, a3, a4, k1 _ rfl⟩)
  · exact .inr (.inr ⟨c, z, a1, a2, k1 _ rfl⟩)
def rIsAll : R2 := fun x y H Q => (y = .non ∧ Q (.bl (decide (x = .non))) H) ∨ ∃ a b, x = .bl a ∧ y = .bl b ∧ Q (.bl (decide (a = b))) H
theorem ne_non {T : Tab} {F H : Hp} {d : D} {v : V} (h : ShV T F H d v) (hd : d ≠ .non) : v ≠ .non := by
  rintro rfl
  rcases h with h | ⟨p, e, _⟩
  · cases d <;> simp only [Rep] at h <;> first | exact hd rfl | (cases h; done) | (obtain ⟨_, _, h, _⟩ := h; cases h; done) | (obtain ⟨_, _, _, h, _⟩ := h; cases h; done) | (obtain ⟨_, h, _⟩ := h; cases h)
  · cases e
end
end Nv
set_option Elab.async false
set_option linter.all false
set_option maxRecDepth 100000
set_option maxHeartbeats 4000000
namespace Nv
open PySem L2
section
variable {cl : Cl} {X : Cx}
/-! ### is -/
theorem op_isAll : OpR X (compareOp .Is) rIsAll := op_isN.or op_is_bl
def isB (d e : D) : Out Bool := match e with
  | .non => match d with
    | .non => .ok true
    | _ => .ok false
  | .bl b => match d with
    | .bl a => .ok (decide (a = b))
    | _ => .bad
  | _ => .bad
def dIs2 (d e : D) : Out D := do let b ← isB d e; .ok (.bl b)
theorem is_parts {T : Tab} {F H : Hp} {x y : V} {dx dy : D} {b : Bool} (hx : ShV T F H dx x) (hy : ShV T F H dy y) (e : isB dx dy = .ok b) :
    (y = .non ∧ b = decide (x = .non)) ∨ ∃ p q, x = .bl p ∧ y = .bl q ∧ b = decide (p = q) := by
  cases dy with
  | non =>
    cases hy.non
    by_cases hd : dx = .non
    · subst hd; cases e; cases hx.non; exact .inl ⟨rfl, rfl⟩
    · have hv := ne_non hx hd
      have : b = false := by
        cases dx <;> first | exact absurd rfl hd | (cases e; rfl)
      subst this
      exact .inl ⟨rfl, (decide_eq_false hv).symm⟩
  | bl q =>
    cases dx with
    | bl p => cases e; cases hx.bl; cases hy.bl; exact .inr ⟨p, q, rfl, rfl, rfl⟩
    | _ => cases e
  | _ => cases e
theorem od_is {T : Tab} : OpD T rIsAll dIs2 := by
  intro F H x y dx dy d le hx hy e Q k1 k2
  obtain ⟨b, e1, e⟩ := bind_ok e
  cases e
  rcases is_parts hx hy e1 with ⟨a1, rfl⟩ | ⟨p, q, a1, a2, rfl⟩
  · exact .inl ⟨a1, k1 _ rfl⟩
  · exact .inr ⟨p, q, a1, a2, k1 _ rfl⟩
/-! ### subscripts -/
def dIx (d e : D) : Out D := match e with
  | .int i => match d with
    | .lst xs => match atI xs i with
      | some x => .ok x
      | none => .bad
    | .tup xs => match atI xs i with
      | some x => .ok x
      | none => .bad
    | .str z => if z.length ≤ sizeLine then (match atI z.cps.toList i with
      | some c => .ok (.str ⟨#[c]⟩)
      | none => .bad) else .bad
    | _ => .bad
  | _ => .bad
theorem Reps.atI {T : Tab} {F : Hp} {ds : List D} {vs : List V} {i : Int} {d : D} (h : Reps T F ds vs) (e : L2.atI ds i = some d) : ∃ v, L2.atI vs i = some v ∧ Rep T F d v := by
  unfold L2.atI at e ⊢
  rw [h.length]
  cases q : ixN ds.length i with
  | none => rw [q] at e; cases e
  | some j =>
    rw [q] at e
    exact h.get e
theorem ix_sound {F H : Hp} {x y : V} {dx dy d : D} (le : Le F H) (hx : ShV ⟨X.K, cl⟩ F H dx x) (hy : ShV ⟨X.K, cl⟩ F H dy y) (e : dIx dx dy = .ok d) (Q : VK) (k : ∀ v, Rep ⟨X.K, cl⟩ F d v → Q v H) : rIx X.K x y H Q := by
  cases dy with
  | int i =>
    cases hy.int
    cases dx with
    | lst xs =>
      simp only [dIx] at e
      cases q : atI xs i with
      | none => rw [q] at e; cases e
      | some z =>
        rw [q] at e; cases e
        obtain ⟨p, vs, rfl, s, r⟩ := hx.lst le
        obtain ⟨v, e1, z⟩ := r.atI q
        exact .inl ⟨p, vs, i, v, rfl, rfl, .inl s, e1, k v z⟩
    | tup xs =>
      simp only [dIx] at e
      cases q : atI xs i with
      | none => rw [q] at e; cases e
      | some z =>
        rw [q] at e; cases e
        obtain ⟨p, vs, rfl, s, r⟩ := hx.tup le
        obtain ⟨v, e1, z⟩ := r.atI q
        exact .inr (.inl ⟨p, vs, i, v, rfl, rfl, s, e1, k v z⟩)
    | str z =>
      simp only [dIx] at e
      by_cases hz : z.length ≤ sizeLine
      · rw [if_pos hz] at e
        cases q : atI z.cps.toList i with
        | none => rw [q] at e; cases e
        | some c =>
          rw [q] at e; cases e
          cases hx.str
          exact .inr (.inr ⟨z, i, c, rfl, rfl, hz, q, k _ rfl⟩)
      · rw [if_neg hz] at e; cases e
    | _ => cases e
  | _ => cases e
theorem de_ix {a b : Expr} {fa fb : SE} {pos : Pos} (ha : DE cl X a fa) (hb : DE cl X b fb) (hs : PlainIx b := by intro _ _; rfl) : DE cl X (.Subscript a b pos) (sOp dIx fa fb) := by
  obtain ⟨t, h1, h2⟩ := ha.ex
  obtain ⟨u, g1, g2⟩ := hb.ex
  exact ⟨_, pe_ix ix_seq h1 g1 hs, two_val h2 g2 fun F H x y dx dy d le hx hy e Q k1 k2 => ix_sound le hx hy e Q k1⟩
/-! ### slices -/
abbrev SO := List Sl → List Cell → Out (Option Int × List Cell)
structure DO (cl : Cl) (X : Cx) (e : Option Expr) (f : SO) : Prop where
  ex : ∃ t, PO X e t ∧ ∀ W σ H r m, Rl ⟨X.K, cl⟩ W σ H r m → ∀ o m', f r m = .ok (o, m') → ∀ Q : Option Int → Hp → Prop,
    (∀ W' H', Stp W H W' H' → Rl ⟨X.K, cl⟩ W' σ H' r m' → Q o H') → t σ H Q
def oNone : SO := fun _ m => .ok (none, m)
def oSome (f : SE) : SO := fun r m => do
  let (s, m1) ← f r m
  match s with
  | .val (.int i) => .ok (some i, m1)
  | _ => .bad
theorem do_none : DO cl X none oNone := ⟨_, po_none, fun W σ H r m R o m' e Q k => by cases e; exact k W H (Stp.refl _ _) R⟩
theorem do_some {e : Expr} {f : SE} (h : DE cl X e f) : DO cl X (some e) (oSome f) := by
  obtain ⟨t, h1, h2⟩ := h.ex
  refine ⟨_, po_some h1, fun W σ H r m R o m' e Q k => ?_⟩
  obtain ⟨⟨s, m1⟩, e1, e⟩ := bind_ok e
  cases s with
  | un => cases e
  | ref j => cases e
  | val d => cases d with
    | int i => cases e; exact h2 W σ H r m R _ _ e1 _ fun v W1 H1 w1 R1 z1 => ⟨i, z1, k W1 H1 w1 R1⟩
    | _ => cases e
def cut {A : Type} (xs : List A) (lo hi : Option Int) : List A := (xs.drop (HT.sIx xs.length 0 lo)).take (HT.sIx xs.length xs.length hi - HT.sIx xs.length 0 lo)
def dSl (d : D) (lo hi : Option Int) : Out D := match d with
  | .lst xs => .ok (.lst (cut xs lo hi))
  | .tup xs => .ok (.tup (cut xs lo hi))
  | .str z => if z.length ≤ sizeLine then .ok (.str (cutS z lo hi)) else .bad
  | .scr ns => .ok (.lst ((cut ns lo hi).map .int))
  | _ => .bad
theorem Reps.drop {T : Tab} {F : Hp} : ∀ {ds : List D} {vs : List V} (n : Nat), Reps T F ds vs → Reps T F (ds.drop n) (vs.drop n)
  | [], _, n, h => by cases h; simp [Reps]
  | d :: ds, _, 0, h => by simpa using h
  | d :: ds, _, n + 1, h => by
    obtain ⟨v, r, rfl, _, t⟩ := h
    simpa using Reps.drop n t
theorem Reps.take {T : Tab} {F : Hp} : ∀ {ds : List D} {vs : List V} (n : Nat), Reps T F ds vs → Reps T F (ds.take n) (vs.take n)
  | [], _, n, h => by cases h; simp [Reps]
  | d :: ds, _, 0, h => by simp [Reps]
  | d :: ds, _, n + 1, h => by
    obtain ⟨v, r, rfl, z, t⟩ := h
    simp only [List.take_succ_cons]
    exact ⟨v, r.take n, rfl, z, Reps.take n t⟩
theorem Reps.cut {T : Tab} {F : Hp} {ds : List D} {vs : List V} {lo hi : Option Int} (h : Reps T F ds vs) : Reps T F (cut ds lo hi) (cutV vs lo hi) := by
  unfold Nv.cut cutV
  rw [h.length]
  exact (h.drop _).take _
theorem Reps.ints {T : Tab} {F : Hp} : ∀ ns : List Int, Reps T F (ns.map .int) (ns.map V.int)
  | [] => rfl
  | n :: ns => ⟨.int n, ns.map V.int, rfl, rfl, Reps.ints ns⟩
def rSlAll (K : PySem.W.Frag) : V → Option Int → Option Int → Hp → VK → Prop := fun x lo hi H Q => rSlL K x lo hi H Q ∨ rSlA K x lo hi H Q ∨ rSlS x lo hi H Q
theorem sl_all : L2.SlR X (rSlAll X.K) := L2.SlR.or sl_list (L2.SlR.or sl_tupA sl_str)
theorem sl_sound {F H : Hp} {x : V} {dx d : D} {lo hi : Option Int} (le : Le F H) (hx : ShV ⟨X.K, cl⟩ F H dx x) (e : dSl dx lo hi = .ok d) (Q : VK) (k1 : ∀ v, Rep ⟨X.K, cl⟩ F d v → Q v H)
    (k2 : ∀ p o, H p = none → F p = none → Rep ⟨X.K, cl⟩ (upd F p o) d (.ref p) → Q (.ref p) (upd H p o)) : rSlAll X.K x lo hi H Q := by
  cases dx with
  | lst xs =>
    cases e
    obtain ⟨p, vs, rfl, s, r⟩ := hx.lst le
    refine .inl ⟨p, vs, rfl, .inl s, fun q hq => k2 q _ hq (le.none hq) ?_⟩
    simp only [Rep]
    exact ⟨q, _, rfl, .inl upd_same, Reps.mono (Same.upd_new (le.none hq)) _ _ r.cut⟩
  | scr ns =>
    cases e
    obtain ⟨p, rfl, s⟩ := hx.scr le
    refine .inl ⟨p, _, rfl, s, fun q hq => k2 q _ hq (le.none hq) ?_⟩
    simp only [Rep]
    refine ⟨q, _, rfl, .inl upd_same, ?_⟩
    have : cutV (ns.map V.int) lo hi = (cut ns lo hi).map V.int := by
      unfold cutV Nv.cut
      simp [List.map_drop, List.map_take]
    rw [this]
    exact Reps.ints _
  | tup xs =>
    cases e
    obtain ⟨p, vs, rfl, s, r⟩ := hx.tup le
    refine .inr (.inl ⟨p, vs, rfl, s, fun h => ?_, fun h q hq => ?_⟩)
    · rw [r.length] at h
      have e1 : cut xs lo hi = xs := by
        unfold Nv.cut
        rw [h.1, h.2]
        simp
      rw [e1] at k1
      rcases hx with hx | ⟨_, _, hx⟩
      · exact k1 _ hx
      · exact hx.elim
    · refine k2 q _ hq (le.none hq) ?_
      simp only [Rep]
      exact ⟨q, _, rfl, .inl (.inl upd_same), Reps.mono (Same.upd_new (le.none hq)) _ _ r.cut⟩
  | str z =>
    simp only [dSl] at e
    obtain ⟨hz, e⟩ := ite_ok e
    cases e
    cases hx.str
    exact .inr (.inr ⟨z, rfl, hz, k1 _ rfl⟩)
  | _ => cases e
def sSl (f : SE) (fl fh : SO) : SE := fun r m => do
  let (s, m1) ← f r m
  let (lo, m2) ← fl r m1
  let (hi, m3) ← fh r m2
  let d ← view m3 s
  let x ← dSl d lo hi
  .ok (.val x, m3)
theorem de_slice {e : Expr} {lo hi : Option Expr} {p2 pos : Pos} {f : SE} {fl fh : SO} (he : DE cl X e f) (hl : DO cl X lo fl) (hh : DO cl X hi fh) : DE cl X (.Subscript e (.Slice lo hi none p2) pos) (sSl f fl fh) := by
  obtain ⟨t, h1, h2⟩ := he.ex
  obtain ⟨u, g1, g2⟩ := hl.ex
  obtain ⟨v, k1, k2⟩ := hh.ex
  refine ⟨_, pe_slice sl_all h1 g1 k1, fun W σ H r m R s m' e Q k => ?_⟩
  obtain ⟨⟨s0, m1⟩, e1, e⟩ := bind_ok e
  obtain ⟨⟨lo, m2⟩, e2, e⟩ := bind_ok e
  obtain ⟨⟨hi, m3⟩, e3, e⟩ := bind_ok e
  obtain ⟨d, e4, e⟩ := bind_ok e
  obtain ⟨x, e5, e⟩ := bind_ok e
  cases e
  refine h2 W σ H r m R s0 m1 e1 _ fun v W1 H1 w1 R1 z1 => ?_
  refine g2 W1 σ H1 r m1 R1 lo m2 e2 _ fun W2 H2 w2 R2 => ?_
  refine k2 W2 σ H2 r m2 R2 hi _ e3 _ fun W3 H3 w3 R3 => ?_
  have w := (w1.trans w2).trans w3
  refine sl_sound R3.le (R3.view ((z1.mono w2.w).mono w3.w) e4) e5 Q (fun v hv => k v W3 H3 w R3 hv) fun p o hp _ hz => ?_
  obtain ⟨R4, w4⟩ := R3.newFz (o := o) hp
  exact k _ _ _ (w.trans w4) R4 hz
/-! ### isinstance of a built-in type -/
def tyName : D → Option String
  | .non => some "NoneType"
  | .bl _ => some "bool"
  | .int _ => some "int"
  | .str _ => some "str"
  | .lst _ => some "list"
  | .tup _ => some "tuple"
  | .dct _ => some "dict"
  | .scr _ => some "list"
  | .ins _ _ => none
  | .cls _ => none
  | .exc _ _ => none
def dIsi (Ty : String) (d : D) : Out D := match tyName d with
  | some n => match kitB n Ty with
    | some b => .ok (.bl b)
    | none => .bad
  | none => .bad
theorem tyX_of {F H : Hp} {d : D} {v : V} {n : String} (le : Le F H) (h : ShV ⟨X.K, cl⟩ F H d v) (e : tyName d = some n) : TyX X.K H v (.type n) := by
  cases d with
  | non => cases h.non; cases e; exact .base .non
  | bl b => cases h.bl; cases e; exact .base (.bl b)
  | int b => cases h.int; cases e; exact .base (.int b)
  | str b => cases h.str; cases e; exact .base (.str b)
  | lst xs =>
    cases e
    obtain ⟨p, vs, rfl, s, r⟩ := h.lst le
    rcases s with s | ⟨o, s⟩
    · exact .base (.lst s)
    · exact .base (.frz s)
  | scr ns =>
    cases e
    obtain ⟨p, rfl, s⟩ := h.scr le
    rcases s with (s | ⟨o, s⟩) | ⟨o, its, n, s, c, _⟩
    · exact .base (.lst s)
    · exact .base (.frz s)
    · exact .kList s c
  | tup xs =>
    cases e
    obtain ⟨p, vs, rfl, s, r⟩ := h.tup le
    rcases s with (s | ⟨o, s⟩) | ⟨o, its, n, s, c, _⟩
    · exact .base (.tup s)
    · exact .fTuple s
    · exact .kTuple s c
  | dct ks =>
    cases e
    obtain ⟨p, vs, rfl, s, r⟩ := h.dct le
    rcases s with s | ⟨o, s⟩
    · exact .base (.dK s)
    · exact .fDict s
  | ins _ _ => cases e
  | cls _ => cases e
  | exc _ _ => cases e
def sIsi (Ty : String) (f : SE) : SE := fun r m => do
  let (s, m1) ← f r m
  let d ← view m1 s
  let b ← dIsi Ty d
  .ok (.val b, m1)
theorem de_isi {e : Expr} {x y : Str} {Ty : String} {p p2 pos : Pos} {f : SE} (he : DE cl X e f) (hgI : Gl X x) (hmI : X.mg x = none) (hvI : bootBuiltins x = some (.builtin "isinstance")) (hgT : Gl X y) (hmT : X.mg y = none) (hvT : bootBuiltins y = some (.type Ty))
    (hn : x ≠ "__name__" := by decide) (hd : (x == ("__debug__" : Str)) = false := by decide) (hn2 : y ≠ "__name__" := by decide) (hd2 : (y == ("__debug__" : Str)) = false := by decide)
    (hs1 : starEach [e, .Name y p2] X.env = (false, eval e X.env) :: starEach [.Name y p2] X.env := by rfl) (hs2 : starEach [.Name y p2] X.env = (false, eval (.Name y p2) X.env) :: starEach [] X.env := by rfl) (hpl : (backTo pos (starEach [.Name y p2] X.env)).any (·.1) = false := by rfl) :
    DE cl X (.Call (.Name x p) [e, .Name y p2] [] pos) (sIsi Ty f) := by
  obtain ⟨t, h1, h2⟩ := he.ex
  refine ⟨_, pe_callB call_isi hgI hmI hvI (pa_cons h1 (pa_cons (pe_bltn (v := .ty Ty) hgT hmT hvT rfl hn2 hd2) pa_nil hs2) hs1) hn hd hs1 hpl, fun W σ H r m R s m' e Q k => ?_⟩
  obtain ⟨⟨s0, m1⟩, e1, e⟩ := bind_ok e
  obtain ⟨d, e2, e⟩ := bind_ok e
  obtain ⟨b, e3, e⟩ := bind_ok e
  cases e
  refine h2 W σ H r m R s0 _ e1 _ fun v W1 H1 w1 R1 z1 => ?_
  unfold dIsi at e3
  cases q : tyName d with
  | none => rw [q] at e3; cases e3
  | some n =>
    rw [q] at e3
    cases q2 : kitB n Ty with
    | none => simp only [q2] at e3; cases e3
    | some b' =>
      simp only [q2] at e3; cases e3
      exact ⟨v, .ty Ty, .type n, .type Ty, b', rfl, .ty Ty, tyX_of R1.le (R1.view z1 e2) q, kit_ty q2, k _ W1 H1 w1 R1 rfl⟩
/-! ### built-in functions -/
def dLen (ds : List D) : Out D := match ds with
  | [.str x] => if x.length ≤ sizeLine then .ok (.int x.length) else .bad
  | [.lst xs] => .ok (.int xs.length)
  | [.tup xs] => .ok (.int xs.length)
  | [.scr xs] => .ok (.int xs.length)
  | _ => .bad
theorem ShVs.one {T : Tab} {F H : Hp} {d : D} {vs : List V} (h : ShVs T F H [d] vs) : ∃ v, vs = [v] ∧ ShV T F H d v := by
  obtain ⟨v, r, rfl, z, e⟩ := h
  cases e; exact ⟨v, rfl, z⟩
theorem ca_len : CaD ⟨X.K, cl⟩ (fun xs H Q => ∃ x n, xs = [x] ∧ LenV X.K x H n ∧ Q (.int n) H) dLen := by
  intro F H xs ds d le h e Q k1 k2
  unfold dLen at e
  split at e
  · obtain ⟨hz, e⟩ := ite_ok e
    cases e
    obtain ⟨v, rfl, z⟩ := h.one
    cases z.str
    exact ⟨_, _, rfl, ⟨hz, rfl⟩, k1 _ rfl⟩
  · cases e
    obtain ⟨v, rfl, z⟩ := h.one
    obtain ⟨p, vs, rfl, s, r⟩ := z.lst le
    exact ⟨_, _, rfl, .inl ⟨vs, .inl s, rfl⟩, k1 _ (by rw [r.length]; rfl)⟩
  · cases e
    obtain ⟨v, rfl, z⟩ := h.one
    obtain ⟨p, vs, rfl, s, r⟩ := z.tup le
    exact ⟨_, _, rfl, .inr ⟨vs, s, rfl⟩, k1 _ (by rw [r.length]; rfl)⟩
  · cases e
    obtain ⟨v, rfl, z⟩ := h.one
    obtain ⟨p, rfl, s⟩ := z.scr le
    exact ⟨_, _, rfl, .inl ⟨_, s, rfl⟩, k1 _ (by rw [List.length_map]; rfl)⟩
  · cases e
def dAbs (ds : List D) : Out D := match ds with
  | [.int i] => .ok (.int (if i < 0 then -i else i))
  | _ => .bad
theorem ca_abs {T : Tab} : CaD T (fun xs H Q => ∃ i, xs = [.int i] ∧ Q (.int (if i < 0 then -i else i)) H) dAbs := by
  intro F H xs ds d le h e Q k1 k2
  unfold dAbs at e
  split at e
  · cases e
    obtain ⟨v, rfl, z⟩ := h.one
    cases z.int
    exact ⟨_, rfl, k1 _ rfl⟩
  · cases e
def dInt (ds : List D) : Out D := match ds with
  | [.int i] => .ok (.int i)
  | [.bl b] => .ok (.int (if b then 1 else 0))
  | _ => .bad
theorem ca_int {T : Tab} : CaD T (fun xs H Q => (∃ i, xs = [.int i] ∧ Q (.int i) H) ∨ ∃ k, xs = [.bl k] ∧ Q (.int (if k then 1 else 0)) H) dInt := by
  intro F H xs ds d le h e Q k1 k2
  unfold dInt at e
  split at e
  · cases e
    obtain ⟨v, rfl, z⟩ := h.one
    cases z.int
    exact .inl ⟨_, rfl, k1 _ rfl⟩
  · cases e
    obtain ⟨v, rfl, z⟩ := h.one
    cases z.bl
    exact .inr ⟨_, rfl, k1 _ rfl⟩
  · cases e
theorem CallR.or {f : Value} {r r' : List V → Hp → VK → Prop} (h : CallR X f r) (h' : CallR X f r') : CallR X f (fun xs H Q => r xs H Q ∨ r' xs H Q) := by
  intro pins s σ H xs us Q I rv q
  rcases q with q | q
  · exact h pins s σ H xs us Q I rv q
  · exact h' pins s σ H xs us Q I rv q
/-- list(..), tuple(..) -/
def dList (ds : List D) : Out D := match ds with
  | [.lst xs] => .ok (.lst xs)
  | [.tup xs] => .ok (.lst xs)
  | _ => .bad
theorem cf_list : CaF ⟨X.K, cl⟩ (fun xs H Q => ∃ p ys, xs = [.ref p] ∧ (SqL X.K H p ys ∨ SqT X.K H p ys) ∧ ∀ l, H l = none → Q (.ref l) (upd H l (.lst ys))) dList := by
  intro F H xs ds d le h e Q k
  unfold dList at e
  split at e
  · cases e
    obtain ⟨v, rfl, z⟩ := h.one
    obtain ⟨p, vs, rfl, s, r⟩ := z.lst le
    exact ⟨p, vs, rfl, .inl (.inl s), fun l hl => k l _ hl (le.none hl) ⟨vs, upd_same, r⟩⟩
  · cases e
    obtain ⟨v, rfl, z⟩ := h.one
    obtain ⟨p, vs, rfl, s, r⟩ := z.tup le
    exact ⟨p, vs, rfl, .inr s, fun l hl => k l _ hl (le.none hl) ⟨vs, upd_same, r⟩⟩
  · cases e
def blsOf : List D → Option (List Bool)
  | [] => some []
  | .bl i :: ds => (blsOf ds).map (i :: ·)
  | _ :: _ => none
def strsOf : List D → Option (List Str)
  | [] => some []
  | .str i :: ds => (strsOf ds).map (i :: ·)
  | _ :: _ => none
theorem blsOf_ok {T : Tab} {F : Hp} : ∀ {ds : List D} {vs : List V} {ns : List Bool}, Reps T F ds vs → blsOf ds = some ns → vs = ns.map V.bl
  | [], _, _, h, e => by cases h; cases e; rfl
  | d :: ds, _, ns, h, e => by
    obtain ⟨v, r, rfl, z, t⟩ := h
    cases d with
    | bl i =>
      simp only [blsOf] at e
      obtain ⟨ms, e1, rfl⟩ := map_some e
      cases z
      rw [blsOf_ok t e1]; rfl
    | _ => cases e
theorem strsOf_ok {T : Tab} {F : Hp} : ∀ {ds : List D} {vs : List V} {ns : List Str}, Reps T F ds vs → strsOf ds = some ns → vs = ns.map V.str
  | [], _, _, h, e => by cases h; cases e; rfl
  | d :: ds, _, ns, h, e => by
    obtain ⟨v, r, rfl, z, t⟩ := h
    cases d with
    | str i =>
      simp only [strsOf] at e
      obtain ⟨ms, e1, rfl⟩ := map_some e
      cases z
      rw [strsOf_ok t e1]; rfl
    | _ => cases e
def ofO {A : Type} (o : Option A) : Out A := match o with
  | some a => .ok a
  | none => .bad
theorem ofO_ok {A : Type} {o : Option A} {a : A} (h : ofO o = .ok a) : o = some a := by
  cases o with
  | none => cases h
  | some b => cases h; rfl
def dAll (ds : List D) : Out D := match ds with
  | [.lst xs] => do
    let ns ← ofO (blsOf xs)
    .ok (.bl (ns.all id))
  | _ => .bad
theorem ca_all : CaD ⟨X.K, cl⟩ (rAll X.K) dAll := by
  intro F H xs ds d le h e Q k1 k2
  unfold dAll at e
  split at e
  · obtain ⟨ns, e1, e⟩ := bind_ok e
    cases e
    obtain ⟨v, rfl, z⟩ := h.one
    obtain ⟨p, vs, rfl, s, r⟩ := z.lst le
    have := blsOf_ok r (ofO_ok e1)
    subst this
    exact ⟨p, ns, rfl, .inl s, k1 _ rfl⟩
  · cases e
def maxI : Int → List Int → Int
  | m, [] => m
  | m, x :: xs => maxI (if m < x then x else m) xs
end
end Nv
set_option Elab.async false
set_option linter.all false
set_option maxRecDepth 100000
set_option maxHeartbeats 4000000
namespace Nv
open PySem L2
section
variable {cl : Cl} {X : Cx}
/-! ### lists that change -/
/-- the list of a cell that may be changed -/
def cellL (m : List Cell) (s : Sl) : Out (Nat × CS × List D) := match s with
  | .ref j => match m[j]? with
    | some ⟨.own, .lst xs⟩ => .ok (j, .own, xs)
    | some ⟨.bor, .lst xs⟩ => .ok (j, .bor, xs)
    | _ => .bad
  | _ => .bad
/-- o.append(e) -/
def sAppend (fo fe : SE) : SE := fun r m => do
  let (o, m1) ← fo r m
  let (_, _, _) ← cellL m1 o
  let (s, m2) ← fe r m1
  let (x, m3) ← toD s m2
  let (j, k, xs) ← cellL m3 o
  if xs.length < sizeLine then .ok (.val .non, m3.set j ⟨k, .lst (xs ++ [x])⟩) else .bad
def sExtend (fo fe : SE) : SE := fun r m => do
  let (o, m1) ← fo r m
  let (_, _, _) ← cellL m1 o
  let (s, m2) ← fe r m1
  let d ← view m2 s
  let (j, k, xs) ← cellL m2 o
  match d with
  | .lst ys => if xs.length + ys.length ≤ sizeLine then .ok (.val .non, m2.set j ⟨k, .lst (xs ++ ys)⟩) else .bad
  | _ => .bad
/-- o[i] = e, o a list that changes -/
def sSetIx (fo fi fe : SE) : SS := fun r m => do
  let (s, m1) ← fe r m
  let (x, m2) ← toD s m1
  let (o, m3) ← fo r m2
  let (i, m4) ← fi r m3
  let (j, k, xs) ← cellL m4 o
  match i with
  | .val (.int n) => match ixN xs.length n with
    | some q => .ok (.nx, r, m4.set j ⟨k, .lst (xs.set q x)⟩)
    | none => .bad
  | _ => .bad
theorem Reps.set {T : Tab} {F : Hp} {d : D} {v : V} (h : Rep T F d v) : ∀ {ds : List D} {vs : List V} (i : Nat), Reps T F ds vs → Reps T F (ds.set i d) (vs.set i v)
  | [], _, _, q => by cases q; simp [Reps]
  | _ :: _, _, 0, ⟨u, r, e, z, t⟩ => by subst e; exact ⟨v, r, rfl, h, t⟩
  | _ :: _, _, i + 1, ⟨u, r, e, z, t⟩ => by subst e; exact ⟨u, r.set i v, rfl, z, Reps.set h i t⟩
/-! ### dicts -/
def keyOf : D → Option Key
  | .int i => some (.inl i)
  | .str x => some (.inr x)
  | _ => none
def getK : List (Key × D) → Key → Option D
  | [], _ => none
  | (j, d) :: r, k => if j = k then some d else getK r k
theorem keyOf_ok {T : Tab} {F H : Hp} {d : D} {v : V} {k : Key} (h : ShV T F H d v) (e : keyOf d = some k) : v = kV k := by
  cases d with
  | int i => cases e; exact h.int
  | str x => cases e; exact h.str
  | _ => cases e
theorem RepK.get {T : Tab} {F : Hp} {k : Key} : ∀ {ks : List (Key × D)} {kvs : List (Key × V)}, RepK T F ks kvs → (∃ d v, getK ks k = some d ∧ valV kvs k = some v ∧ Rep T F d v) ∨ (getK ks k = none ∧ valV kvs k = none)
  | [], _, h => by cases h; exact .inr ⟨rfl, rfl⟩
  | (j, d) :: ks, _, h => by
    obtain ⟨v, r, rfl, z, t⟩ := h
    by_cases e : j = k
    · exact .inl ⟨d, v, by simp [getK, e], valV_pos (p := (j, v)) e, z⟩
    · rw [valV_neg (p := (j, v)) e]
      simp only [getK, if_neg e]
      exact RepK.get t
def putD (ks : List (Key × D)) (k : Key) (v : D) : List (Key × D) :=
  if (ks.any fun kv => decide (kv.1 = k)) = true then ks.map (fun kv => if kv.1 = k then (kv.1, v) else kv) else ks ++ [(k, v)]
theorem RepK.any {T : Tab} {F : Hp} {k : Key} : ∀ {ks : List (Key × D)} {kvs : List (Key × V)}, RepK T F ks kvs → (ks.any fun kv => decide (kv.1 = k)) = (kvs.any fun kv => decide (kv.1 = k))
  | [], _, h => by cases h; rfl
  | (j, d) :: ks, _, h => by
    obtain ⟨v, r, rfl, z, t⟩ := h
    simp only [List.any_cons, RepK.any t]
theorem RepK.map {T : Tab} {F : Hp} {k : Key} {x : D} {y : V} (hz : Rep T F x y) : ∀ {ks : List (Key × D)} {kvs : List (Key × V)}, RepK T F ks kvs → RepK T F (ks.map fun kv => if kv.1 = k then (kv.1, x) else kv) (kvs.map fun kv => if kv.1 = k then (kv.1, y) else kv)
  | [], _, h => by cases h; rfl
  | (j, d) :: ks, _, h => by
    obtain ⟨v, r, rfl, z, t⟩ := h
    simp only [List.map_cons]
    by_cases e : j = k
    · rw [if_pos e, if_pos e]; exact ⟨y, _, rfl, hz, RepK.map hz t⟩
    · rw [if_neg e, if_neg e]; exact ⟨v, _, rfl, z, RepK.map hz t⟩
theorem RepK.snoc {T : Tab} {F : Hp} {k : Key} {x : D} {y : V} (hz : Rep T F x y) : ∀ {ks : List (Key × D)} {kvs : List (Key × V)}, RepK T F ks kvs → RepK T F (ks ++ [(k, x)]) (kvs ++ [(k, y)])
  | [], _, h => by cases h; exact ⟨y, [], rfl, hz, rfl⟩
  | (j, d) :: ks, _, h => by
    obtain ⟨v, r, rfl, z, t⟩ := h
    exact ⟨v, r ++ [(k, y)], rfl, z, RepK.snoc hz t⟩
theorem RepK.put {T : Tab} {F : Hp} {k : Key} {x : D} {y : V} (hz : Rep T F x y) {ks : List (Key × D)} {kvs : List (Key × V)} (h : RepK T F ks kvs) : RepK T F (putD ks k x) (putK kvs k y) := by
  unfold putD putK
  rw [h.any]
  split
  · exact RepK.map hz h
  · exact RepK.snoc hz h
theorem RepK.length {T : Tab} {F : Hp} : ∀ {ks : List (Key × D)} {kvs : List (Key × V)}, RepK T F ks kvs → kvs.length = ks.length
  | [], _, h => by cases h; rfl
  | (j, d) :: ks, _, h => by
    obtain ⟨v, r, rfl, z, t⟩ := h
    simp [RepK.length t]
/-- d[k] -/
def dGetI (d e : D) : Out D := match d with
  | .dct ks => match keyOf e with
    | some k => match getK ks k with
      | some x => .ok x
      | none => .bad
    | none => .bad
  | _ => .bad
theorem de_dget {o i : Expr} {pos : Pos} {fo fi : SE} (hu : X.A.units + 1 < cLine) (ho : DE cl X o fo) (hi : DE cl X i fi) (hs : NoSl i := by intro _ _; rfl) : DE cl X (.Subscript o i pos) (sOp dGetI fo fi) := by
  obtain ⟨t, h1, h2⟩ := ho.ex
  obtain ⟨u, g1, g2⟩ := hi.ex
  refine ⟨_, pe_dget hu h1 g1 hs, fun W σ H r m R s m' e Q k => ?_⟩
  obtain ⟨d, rfl, e'⟩ := sOp_ok e
  obtain ⟨x, m1, y, dx, dy, e1, e2, e3, e4, e5⟩ := s2_ok e'
  refine h2 W σ H r m R x m1 e1 _ fun v W1 H1 w1 R1 z1 => ?_
  refine g2 W1 σ H1 r m1 R1 y m' e2 _ fun u W2 H2 w2 R2 z2 => ?_
  cases dx with
  | dct ks =>
    simp only [dGetI] at e5
    cases q : keyOf dy with
    | none => rw [q] at e5; cases e5
    | some kk =>
      rw [q] at e5
      cases q2 : getK ks kk with
      | none => simp only [q2] at e5; cases e5
      | some x2 =>
        simp only [q2] at e5; cases e5
        obtain ⟨p, kvs, rfl, a1, a2⟩ := (R2.view (z1.mono w2.w) e3).dct R2.le
        have hk := keyOf_ok (R2.view z2 e4) q
        subst hk
        rcases a2.get (k := kk) with ⟨d', v', b1, b2, b3⟩ | ⟨b1, _⟩
        · rw [q2] at b1; cases b1
          exact ⟨p, v', rfl, .inl ⟨kvs, kk, a1, rfl, b2.symm⟩, k v' W2 H2 (w1.trans w2) R2 b3⟩
        · rw [q2] at b1; cases b1
  | _ => cases e5
end
end Nv
set_option Elab.async false
set_option linter.all false
set_option maxRecDepth 100000
set_option maxHeartbeats 4000000
namespace Nv
open PySem L2
section
variable {cl : Cl} {X : Cx}
/-! ### d.get(k), d.get(k, x) -/
def isDct : D → Bool
  | .dct _ => true
  | _ => false
def sGet2 (fo fi fx : SE) : SE := fun r m => do
  let (o, m1) ← fo r m
  let d0 ← view m1 o
  if isDct d0 then
    let (i, m2) ← fi r m1
    let (x, m3) ← fx r m2
    let (dx, m4) ← toD x m3
    let dk ← view m4 i
    let dd ← view m4 o
    match dd, keyOf dk with
    | .dct ks, some k => .ok (.val ((getK ks k).getD dx), m4)
    | _, _ => .bad
  else .bad
/-! ### d[k] = v -/
def cellD (m : List Cell) (s : Sl) : Out (Nat × CS × List (Key × D)) := match s with
  | .ref j => match m[j]? with
    | some ⟨.own, .dct xs⟩ => .ok (j, .own, xs)
    | some ⟨.bor, .dct xs⟩ => .ok (j, .bor, xs)
    | _ => .bad
  | _ => .bad
theorem Rl.cellD {T : Tab} {W : Wo} {σ : St} {H : Hp} {r : List Sl} {m : List Cell} (R : Rl T W σ H r m) {s : Sl} {v : V} {j : Nat} {k : CS} {xs : List (Key × D)} (z : SlR T W s v) (e : cellD m s = .ok (j, k, xs)) :
    ∃ p vs, v = .ref p ∧ W.al[j]? = some p ∧ H p = some (.dK vs) ∧ RepK T W.F xs vs ∧ m[j]? = some ⟨k, .dct xs⟩ ∧ (k = .own ∨ k = .bor) := by
  have : s = .ref j ∧ m[j]? = some ⟨k, .dct xs⟩ ∧ (k = .own ∨ k = .bor) := by
    cases s with
    | un => cases e
    | val d => cases e
    | ref i =>
      simp only [Nv.cellD] at e
      split at e
      · next h => cases e; exact ⟨rfl, h, .inl rfl⟩
      · next h => cases e; exact ⟨rfl, h, .inr rfl⟩
      · cases e
  obtain ⟨rfl, h1, h2⟩ := this
  obtain ⟨p, e1, rfl⟩ := z
  have ok := R.ce j _ p h1 e1
  have : Sh T W.F H p (.dct xs) := by rcases h2 with q | q <;> cases q <;> exact ok.1
  obtain ⟨vs, e2, rs⟩ := this
  exact ⟨p, vs, rfl, e1, e2, rs, h1, h2⟩
def sPutD (fo fi fe : SE) : SS := fun r m => do
  let (s, m1) ← fe r m
  let (x, m2) ← toD s m1
  let (o, m3) ← fo r m2
  let (i, m4) ← fi r m3
  let dk ← view m4 i
  let (j, k, ks) ← cellD m4 o
  match keyOf dk with
  | some kk => if ks.length < sizeLine then .ok (.nx, r, m4.set j ⟨k, .dct (putD ks kk x)⟩) else .bad
  | none => .bad
theorem ds_dput {o i e : Expr} {pos pos' : Pos} {fo fi fe : SE} (hu : X.A.units + 1 < cLine) (ho : DE cl X o fo) (hi : DE cl X i fi) (he : DE cl X e fe) (hs : swapsWith e (some (.Subscript o i pos')) pos.line X.env = pure false := by rfl) :
    DS cl X (.Assign [.Subscript o i pos'] e pos) (sPutD fo fi fe) := by
  obtain ⟨to, o1, o2⟩ := ho.ex
  obtain ⟨ti, i1, i2⟩ := hi.ex
  obtain ⟨te, v1, v2⟩ := he.ex
  refine ⟨_, ps_dput hu o1 i1 v1 hs, fun W σ H r m R fl r' m' e Dn k => ?_⟩
  obtain ⟨⟨s, m1⟩, e1, e⟩ := bind_ok e
  obtain ⟨⟨x, m2⟩, e2, e⟩ := bind_ok e
  obtain ⟨⟨o', m3⟩, e3, e⟩ := bind_ok e
  obtain ⟨⟨i', m4⟩, e4, e⟩ := bind_ok e
  obtain ⟨dk, e6, e⟩ := bind_ok e
  obtain ⟨⟨j, ck, ks⟩, e5, e⟩ := bind_ok e
  refine v2 W σ H r m R s m1 e1 _ fun y W1 H1 w1 R1 z1 => ?_
  obtain ⟨W2, w2, R2, z2⟩ := R1.toD z1 e2
  refine o2 W2 σ H1 r m2 R2 o' m3 e3 _ fun ov W3 H3 w3 R3 z3 => ?_
  refine i2 W3 σ H3 r m3 R3 i' m4 e4 _ fun iv W4 H4 w4 R4 z4 => ?_
  obtain ⟨p, vs, rfl, a1, a2, a3, a4, a5⟩ := R4.cellD (z3.mono w4.w) e5
  cases q : keyOf dk with
  | none => rw [q] at e; cases e
  | some kk =>
    rw [q] at e
    obtain ⟨hz, e⟩ := ite_ok e
    cases e
    have hk := keyOf_ok (R4.view z4 e6) q
    subst hk
    refine ⟨p, upd H4 p (.dK (putK vs kk y)), rfl, DPut.k a2 (by rw [a3.length]; exact hz), ?_⟩
    have z5 := Rep.mono (w3.w.f.trans w4.w.f) _ _ z2
    obtain ⟨R5, w5⟩ := R4.write (o := .dK (putK vs kk y)) (d := .dct (putD ks kk x)) a1 a4 a5 ⟨_, upd_same, RepK.put z5 a3⟩
    exact k W4 σ _ ((((w1.trans w2).trans w3).trans w4).trans w5) R5
/-! ### {}, {k: v, ..} -/
def fEmptyD : SF := fun _ m => .ok (.dct [], m)
theorem fe_emptyD {pos : Pos} : FE cl X (.Dict [] [] pos) fEmptyD := by
  refine ⟨_, pe_dnewK, fun W σ H r m R d m' e Q k => ?_⟩
  cases e
  intro p hp
  obtain ⟨R3, lo, w3⟩ := R.new (o := .dK []) hp
  exact k p W _ w3 R3 hp lo ⟨[], upd_same, rfl⟩
abbrev SP := List Sl → List Cell → Out (List (Sl × Sl) × List Cell)
structure DP (cl : Cl) (X : Cx) (pos : Pos) (ks : List (Option Expr)) (vs : List Expr) (f : SP) : Prop where
  ex : ∃ t, PPs X pos ks vs t ∧ ∀ W σ H r m, Rl ⟨X.K, cl⟩ W σ H r m → ∀ ss m', f r m = .ok (ss, m') → ∀ Q : List (V × V) → Hp → Prop,
    (∀ ps W' H', Stp W H W' H' → Rl ⟨X.K, cl⟩ W' σ H' r m' → SlRs ⟨X.K, cl⟩ W' (ss.map (·.1)) (ps.map (·.1)) → SlRs ⟨X.K, cl⟩ W' (ss.map (·.2)) (ps.map (·.2)) → Q ps H') → tPairs t σ H Q
def pNil : SP := fun _ m => .ok ([], m)
def pCons (fk fv : SE) (f : SP) : SP := fun r m => do
  let (a, m1) ← fk r m
  let (b, m2) ← fv r m1
  let (ss, m3) ← f r m2
  .ok ((a, b) :: ss, m3)
theorem dp_nil {pos : Pos} : DP cl X pos [] [] pNil := ⟨_, pps_nil, fun W σ H r m R ss m' e Q k => by cases e; exact k [] W H (Stp.refl _ _) R rfl rfl⟩
theorem dp_cons {pos : Pos} {k v : Expr} {ks : List (Option Expr)} {vs : List Expr} {fk fv : SE} {f : SP} (hk : DE cl X k fk) (hv : DE cl X v fv) (hr : DP cl X pos ks vs f) : DP cl X pos (some k :: ks) (v :: vs) (pCons fk fv f) := by
  obtain ⟨tk, k1, k2⟩ := hk.ex
  obtain ⟨tv, v1, v2⟩ := hv.ex
  obtain ⟨t, r1, r2⟩ := hr.ex
  refine ⟨_, pps_cons k1 v1 r1, fun W σ H r m R ss m' e Q kk => ?_⟩
  obtain ⟨⟨a, m1⟩, e1, e⟩ := bind_ok e
  obtain ⟨⟨b, m2⟩, e2, e⟩ := bind_ok e
  obtain ⟨⟨ss', m3⟩, e3, e⟩ := bind_ok e
  cases e
  refine k2 W σ H r m R a m1 e1 _ fun x W1 H1 w1 R1 z1 => ?_
  refine v2 W1 σ H1 r m1 R1 b m2 e2 _ fun y W2 H2 w2 R2 z2 => ?_
  refine r2 W2 σ H2 r m2 R2 ss' _ e3 _ fun ps W3 H3 w3 R3 z3 z4 => ?_
  exact kk _ W3 H3 ((w1.trans w2).trans w3) R3 ⟨x, _, rfl, (z1.mono w2.w).mono w3.w, z3⟩ ⟨y, _, rfl, z2.mono w3.w, z4⟩
def keysOf (m : List Cell) : List Sl → Out (List Key)
  | [] => .ok []
  | s :: ss => do
    let d ← view m s
    let k ← ofO (keyOf d)
    let ks ← keysOf m ss
    .ok (k :: ks)
def mergeD (ks more : List (Key × D)) : List (Key × D) := more.foldl (fun acc kv => putD acc kv.1 kv.2) ks
def fDict (f : SP) : SF := fun r m => do
  let (ss, m1) ← f r m
  let ks ← keysOf m1 (ss.map (·.1))
  let (ds, m2) ← toDs (ss.map (·.2)) m1
  if ks.length ≤ 15 then .ok (.dct (mergeD [] (ks.zip ds)), m2) else .bad
theorem keysOf_ok {T : Tab} {W : Wo} {σ : St} {H : Hp} {r : List Sl} {m : List Cell} (R : Rl T W σ H r m) : ∀ {ss : List Sl} {vs : List V} {ks : List Key}, SlRs T W ss vs → keysOf m ss = .ok ks → vs = ks.map kV
  | [], _, _, h, e => by cases e; exact h
  | s :: ss, _, _, ⟨v, rr, ev, h1, h2⟩, e => by
    obtain ⟨d, e1, e⟩ := bind_ok e
    obtain ⟨k, e2, e⟩ := bind_ok e
    obtain ⟨ks', e3, e⟩ := bind_ok e
    cases e
    rw [ev, keyOf_ok (R.view h1 e1) (ofO_ok e2), keysOf_ok R h2 e3]
    rfl
theorem RepK.zip {T : Tab} {F : Hp} : ∀ {ks : List Key} {ds : List D} {vs : List V}, Reps T F ds vs → RepK T F (ks.zip ds) (ks.zip vs)
  | [], _, _, _ => by simp [RepK]
  | _ :: _, [], _, h => by cases h; simp [RepK]
  | k :: ks, d :: ds, _, h => by
    obtain ⟨v, r, rfl, z, t⟩ := h
    exact ⟨v, ks.zip r, rfl, z, RepK.zip t⟩
theorem RepK.merge {T : Tab} {F : Hp} : ∀ {more : List (Key × D)} {mvs : List (Key × V)} {ks : List (Key × D)} {kvs : List (Key × V)}, RepK T F more mvs → RepK T F ks kvs → RepK T F (mergeD ks more) (mergeK kvs mvs)
  | [], _, _, _, h, h' => by cases h; exact h'
  | (k, d) :: more, _, _, _, h, h' => by
    obtain ⟨v, r, rfl, z, t⟩ := h
    exact RepK.merge (more := more) (mvs := r) t (RepK.put z h')
theorem Rl.upd_loose {T : Tab} {W : Wo} {σ : St} {H : Hp} {r : List Sl} {m : List Cell} (R : Rl T W σ H r m) {L : Addr} {o : HO} (lo : Loose W L) : Rl T W σ (upd H L o) r m := by
  refine ⟨fun b u q => ?_, R.sl, R.len, R.ml, fun j c q e1 e2 => ?_, fun j q e z => ?_, R.inj⟩
  · have hb : b ≠ L := fun z => by subst z; rw [lo.f] at q; cases q
    rw [upd_ne hb]; exact R.le b u q
  · have hb : q ≠ L := fun z => by subst z; exact lo.al j e2
    exact (R.ce j c q e1 e2).mono (Same.refl _) (fun z => z) fun o z => by rw [upd_ne hb]; exact z
  · have := R.live j q e
    unfold upd at z
    split at z
    · cases z
    · exact this z
theorem Stp.loose {W W' : Wo} {H H' : Hp} {L : Addr} (st : Stp W H W' H') (lo : Loose W L) (hn : H L ≠ none) : Loose W' L := by
  refine ⟨?_, fun j q => ?_⟩
  · cases q : W'.F L with
    | none => rfl
    | some o =>
      rcases st.fr L (by rw [q]; exact fun z => nomatch z) with z | z | ⟨j, z⟩
      · exact absurd lo.f z
      · exact absurd z hn
      · exact absurd z (lo.al j)
  · rcases st.cells j L q with z | z
    · exact lo.al j z
    · exact hn z
theorem zip_keys : ∀ {ps : List (V × V)} {ks : List Key}, ps.map (·.1) = ks.map kV → ps = (ks.zip (ps.map (·.2))).map fun kv => (kV kv.1, kv.2)
  | [], ks, h => by cases ks with | nil => rfl | cons _ _ => cases h
  | q :: ps, ks, h => by
    cases ks with
    | nil => cases h
    | cons k ks =>
      simp only [List.map_cons, List.cons.injEq] at h
      simp only [List.map_cons, List.zip_cons_cons]
      rw [← zip_keys h.2, ← h.1]
theorem fe_dict {pos : Pos} {keys : List (Option Expr)} {vals : List Expr} {f : SP} (h : DP cl X pos keys vals f) (hall : keys.all (·.isSome) = true := by rfl) (hl : keys.length = vals.length := by rfl) (h0 : keys ≠ [] := by intro z; cases z)
    (h15 : keys.length ≤ 15 := by decide) : FE cl X (.Dict keys vals pos) (fDict f) := by
  obtain ⟨t, h1, h2⟩ := h.ex
  refine ⟨_, pe_disp h1 hall hl h0 h15, fun W σ H r m R d m' e Q k => ?_⟩
  obtain ⟨⟨ss, m1⟩, e1, e⟩ := bind_ok e
  obtain ⟨ks, e2, e⟩ := bind_ok e
  obtain ⟨⟨ds, m2⟩, e3, e⟩ := bind_ok e
  obtain ⟨hz, e⟩ := ite_ok e
  cases e
  intro p hp
  obtain ⟨R0, lo0, w0⟩ := R.new (o := .dK []) hp
  refine h2 W σ _ r m R0 ss m1 e1 _ fun ps W1 H1 w1 R1 z1 z2 => ?_
  have hn0 : upd H p (.dK []) p ≠ none := by rw [upd_same]; exact fun z => nomatch z
  have lo1 := w1.loose lo0 hn0
  have hp1 : H1 p = some (.dK []) := w1.keep p _ upd_same lo0.al
  obtain ⟨W2, w2, R2, z3⟩ := R1.toDs z2 e3
  have hn1 : H1 p ≠ none := by rw [hp1]; exact fun z => nomatch z
  have lo2 := w2.loose lo1 hn1
  have hk := keysOf_ok R1 z1 e2
  have hlen : ps.length = ks.length := by have := congrArg List.length hk; simpa using this
  have hps := zip_keys hk
  refine ⟨hp1, ks.zip (ps.map (·.2)), hps, by simp [List.length_zip]; omega, ?_⟩
  have rk : RepK ⟨X.K, cl⟩ W2.F (mergeD [] (ks.zip ds)) (mergeK [] (ks.zip (ps.map (·.2)))) := RepK.merge (RepK.zip z3) rfl
  refine k p W2 _ ?_ (R2.upd_loose lo2) hp lo2 ⟨_, upd_same, rk⟩
  have ww := (w0.trans w1).trans w2
  refine ⟨ww.w, fun b o e n => ?_, fun b e z => ?_, ww.cells, ww.fr, fun b o f e => by
    have hb : b ≠ p := fun z => by subst z; rw [hp] at e; cases e
    rw [upd_ne hb]; exact ww.kf b o f e⟩
  · have hb : b ≠ p := fun z => by subst z; rw [hp] at e; cases e
    rw [upd_ne hb]; exact ww.keep b o e n
  · unfold upd at z
    split at z
    · cases z
    · exact ww.more b e z
/-! ### dict(list of pairs) -/
end
end Nv
set_option Elab.async false
set_option linter.all false
set_option maxRecDepth 100000
set_option maxHeartbeats 4000000
namespace Nv
open PySem PySem.Spec PyProof.Rows L2
section
variable {cl : Cl} {X : Cx}
/-! ### calls by keywords alone -/
structure DK (cl : Cl) (X : Cx) (kws : List Keyword) (f : SA) : Prop where
  ex : ∃ t, PK X kws t ∧ ∀ W σ H r m, Rl ⟨X.K, cl⟩ W σ H r m → ∀ ss m', f r m = .ok (ss, m') → ∀ Q : List V → Hp → Prop,
    (∀ vs W' H', Stp W H W' H' → Rl ⟨X.K, cl⟩ W' σ H' r m' → SlRs ⟨X.K, cl⟩ W' ss vs → Q vs H') → t σ H Q
theorem dk_nil : DK cl X [] aNil := ⟨_, pk_nil, fun W σ H r m R ss m' e Q k => by cases e; exact k [] W H (Stp.refl _ _) R rfl⟩
theorem dk_cons {nm : Option Str} {e : Expr} {kpos : Pos} {kws : List Keyword} {f : SE} {g : SA} (h : DE cl X e f) (hr : DK cl X kws g) : DK cl X (⟨nm, e, kpos⟩ :: kws) (aCons f g) := by
  obtain ⟨t, h1, h2⟩ := h.ex
  obtain ⟨u, g1, g2⟩ := hr.ex
  refine ⟨_, pk_cons h1 g1, fun W σ H r m R ss m' e Q k => ?_⟩
  obtain ⟨⟨s, m1⟩, e1, e2⟩ := bind_ok e
  obtain ⟨⟨ss', m2⟩, e3, e4⟩ := bind_ok e2
  cases e4
  refine h2 W σ H r m R s m1 e1 _ fun v W1 H1 w1 R1 z1 => ?_
  refine g2 W1 σ H1 r m1 R1 ss' m' e3 _ fun vs W2 H2 w2 R2 z2 => ?_
  exact k _ W2 H2 (w1.trans w2) R2 ⟨v, vs, rfl, z1.mono w2.w, z2⟩
def permL {A : Type} (perm : List Nat) (xs : List A) : List A := perm.filterMap (xs[·]?)
theorem SlRs.get {T : Tab} {W : Wo} : ∀ {ss : List Sl} {vs : List V} (i : Nat), SlRs T W ss vs → (∃ s v, ss[i]? = some s ∧ vs[i]? = some v ∧ SlR T W s v) ∨ (ss[i]? = none ∧ vs[i]? = none)
  | [], _, i, h => by cases h; exact .inr ⟨by simp, by simp⟩
  | s :: ss, _, 0, ⟨v, r, e, z, t⟩ => by subst e; exact .inl ⟨s, v, rfl, rfl, z⟩
  | s :: ss, _, i + 1, ⟨v, r, e, z, t⟩ => by subst e; simpa using SlRs.get i t
theorem SlRs.perm {T : Tab} {W : Wo} {ss : List Sl} {vs : List V} (h : SlRs T W ss vs) : ∀ (perm : List Nat), SlRs T W (permL perm ss) (permL perm vs)
  | [] => rfl
  | i :: perm => by
    unfold permL
    rw [List.filterMap_cons, List.filterMap_cons]
    rcases h.get i with ⟨s, v, e1, e2, z⟩ | ⟨e1, e2⟩
    · rw [e1, e2]; exact ⟨v, _, rfl, z, h.perm perm⟩
    · rw [e1, e2]; exact h.perm perm
theorem SlRs.length {T : Tab} {W : Wo} : ∀ {ss : List Sl} {vs : List V}, SlRs T W ss vs → vs.length = ss.length
  | [], _, h => by cases h; rfl
  | _ :: _, _, ⟨v, r, e, z, t⟩ => by subst e; simp [SlRs.length t]
theorem vals_perm {vs : List V} {us : List Value} (r : Vals vs us) : ∀ (perm : List Nat), Vals (permL perm vs) (permL perm us)
  | [] => .nil
  | i :: perm => by
    unfold permL
    rw [List.filterMap_cons, List.filterMap_cons]
    cases e : vs[i]? with
    | none => rw [r.none_of e]; exact vals_perm r perm
    | some v =>
      obtain ⟨u, e2, z⟩ := r.get e
      rw [e2]; exact .cons z (vals_perm r perm)
def aPerm (nk : Nat) (perm : List Nat) (f : SA) : SA := fun r m => do
  let (ss, m1) ← f r m
  if ss.length = nk then .ok (permL perm ss, m1) else .bad
theorem de_callK {k : Nat} {f : Addr} {fd : FuncData} {ps ks : List Str} {g : Fn} {n : Nat} {x : Str} {p pos : Pos} {kws : List Keyword} {fa : SA} (perm : List Nat) (F : FnG X.prog X.w X.K X.mg X.base k f fd ps (toSp ⟨X.K, cl⟩ n g)) (hr : RoomG k X.A) (hg : Gl X x) (hm : X.mg x = some (.ref f)) (hk : PySem.W.keepIn X.K (.ref f) = true)
    (hb : ∀ (s : Shared) (ws : List Value), ws.length = ks.length → BindsTo s fd ⟨[], ks.zip ws⟩ (ps.zip (permL perm ws))) (fl : List Bool) (hn : fl.length = n) (ha : DK cl X kws fa)
    (hall : (backToKw pos (keywordEach kws X.env)).all (·.1.isSome) = true := by rfl) (hks : (backToKw pos (keywordEach kws X.env)).filterMap (·.1) = ks := by rfl)
    (hdb : (x == ("__debug__" : Str)) = false := by decide) (hpl : ((backTo pos (starEach [] X.env)).any (·.1) || (backToKw pos (keywordEach kws X.env)).any (·.1.isNone)) = false := by rfl) :
    DE cl X (.Call (.Name x p) [] kws pos) (sCall fl g (aPerm ks.length perm fa)) := by
  obtain ⟨t, h1, h2⟩ := ha.ex
  refine ⟨fun σ H Q => t σ H fun vs H1 => vs.length = ks.length ∧ toSp ⟨X.K, cl⟩ n g (permL perm vs) H1 Q E0, ⟨fun pins s σ H Q I h => ?_⟩, ?_⟩
  · refine wpAny_Call_Name_kw (ld_glob I hg hm ?_ hdb)
    refine PySem.W.callWith_KW0 (h₀ := X.base) I.ok.mod.kin hk hall (thn (h1.run pos pins s σ H _ I h) fun us s1 ⟨vs, H1, I1, r, hl, q⟩ => ⟨I1.kIn, ?_⟩) hpl
    rw [hks]
    exact run_fnG (E := E0) F hr (fun _ => hb s1 us (by rw [← r.length]; exact hl)) I1 (vals_perm r perm) q
  · refine call_read (t := fun σ H Q => t σ H fun vs H1 => vs.length = ks.length ∧ Q (permL perm vs) H1) (fun W σ H r m R ss m' e Q k => ?_) hn fun σ H Q h => h
    obtain ⟨⟨ss0, m1⟩, e1, e2⟩ := bind_ok e
    obtain ⟨hl, e2⟩ := ite_ok e2
    cases e2
    exact h2 W σ H r m R ss0 _ e1 _ fun vs W1 H1 w1 R1 z1 => ⟨by rw [z1.length]; exact hl, k _ W1 H1 w1 R1 (z1.perm perm)⟩
/-! ### starred arguments -/
def aStar (f : SE) (g : SA) : SA := fun r m => do
  let (s, m1) ← f r m
  let (d, m1') ← toD s m1
  let xs ← (match d with
    | .lst xs => .ok xs
    | .tup xs => .ok xs
    | _ => .bad : Out (List D))
  let (ss, m2) ← g r m1'
  .ok (xs.map .val ++ ss, m2)
theorem SlRs.append {T : Tab} {W : Wo} : ∀ {ss ss' : List Sl} {vs vs' : List V}, SlRs T W ss vs → SlRs T W ss' vs' → SlRs T W (ss ++ ss') (vs ++ vs')
  | [], _, _, _, h, h' => by cases h; exact h'
  | _ :: _, _, _, _, ⟨v, r, e, z, t⟩, h' => by subst e; exact ⟨v, _, rfl, z, SlRs.append t h'⟩
end
end Nv
set_option Elab.async false
set_option linter.all false
set_option maxRecDepth 100000
set_option maxHeartbeats 4000000
namespace Nv
open PySem PySem.Spec PyProof.Rows L2
section
variable {cl : Cl} {X : Cx}
/-! ### calls of defs with *args -/
def sCallR (g : List D → Out D) (f : SA) : SE := fun r m => do
  let (ss, m1) ← f r m
  let (ds, m2) ← toDs ss m1
  let d ← g ds
  .ok (.val d, m2)
variable {k : Nat} {f : Addr} {g : List D → Out D} {x : Str} {p p2 pos : Pos} {e : Expr} {es : List Expr} {fa : SA} {fe : SE}
end
section
variable {cl : Cl} {X : Cx}
/-! ### repr -/
/-! ### texts -/
def dJoin (d : D) (ds : List D) : Out D := match d, ds with
  | .str a, [.lst xs] => do
    let ys ← ofO (strsOf xs)
    if (ys.map (·.length)).sum + ys.length * a.length ≤ 16777216 then .ok (.str (Txt.join a ys)) else .bad
  | _, _ => .bad
theorem md_join : MtD ⟨X.K, cl⟩ "str" (fun x xs H Q => ∃ a p, ∃ ys : List Str, x = .str a ∧ xs = [.ref p] ∧ (SqL X.K H p (ys.map V.str) ∨ SqT X.K H p (ys.map V.str)) ∧
    (ys.map (·.length)).sum + ys.length * a.length ≤ 16777216 ∧ Q (.str (Txt.join a ys)) H) dJoin := by
  intro F H x xs dx ds d le hx hs e Q k1 k2
  unfold dJoin at e
  split at e
  · obtain ⟨ys, e1, e⟩ := bind_ok e
    obtain ⟨hz, e⟩ := ite_ok e
    cases e
    obtain ⟨v, rfl, z⟩ := hs.one
    obtain ⟨p, vs, rfl, s, r⟩ := z.lst le
    have := strsOf_ok r (ofO_ok e1)
    subst this
    cases hx.str
    exact ⟨_, p, ys, rfl, rfl, .inl (.inl s), hz, k1 _ rfl⟩
  · cases e
def dSplit (d : D) (ds : List D) : Out D := match d, ds with
  | .str a, [.str b] => if (b.length == 0) = false ∧ a.length + 2 ≤ sizeLine then .ok (.lst ((Txt.split a b).map .str)) else .bad
  | _, _ => .bad
theorem Reps.strs {T : Tab} {F : Hp} : ∀ ns : List Str, Reps T F (ns.map .str) (ns.map V.str)
  | [] => rfl
  | n :: ns => ⟨.str n, ns.map V.str, rfl, rfl, Reps.strs ns⟩
theorem mf_split : MtF ⟨X.K, cl⟩ "str" (fun x xs H Q => ∃ a b, x = .str a ∧ xs = [.str b] ∧ (b.length == 0) = false ∧ a.length + 2 ≤ sizeLine ∧ rNewStrs (Txt.split a b) H Q) dSplit := by
  intro F H x xs dx ds d le hx hs e Q k
  unfold dSplit at e
  split at e
  · obtain ⟨hz, e⟩ := ite_ok e
    cases e
    obtain ⟨v, rfl, z⟩ := hs.one
    cases z.str
    cases hx.str
    exact ⟨_, _, rfl, rfl, hz.1, hz.2, fun p hp => k p _ hp (le.none hp) ⟨_, upd_same, Reps.strs _⟩⟩
  · cases e
/-! ### sorted texts -/
def leS (a b : Str) : Bool := !ltCps b.cps.toList a.cps.toList
def insS (x : Str) : List Str → List Str
  | [] => [x]
  | y :: ys => if leS x y then x :: y :: ys else y :: insS x ys
def sortS : List Str → List Str
  | [] => []
  | x :: xs => insS x (sortS xs)
end
end Nv
set_option Elab.async false
set_option linter.all false
set_option maxRecDepth 100000
set_option maxHeartbeats 4000000
namespace Nv
open PySem PySem.Spec PyProof.Rows L2
/-! ### the law's own call -/
section
variable {P : Program} {w : World} {K : PySem.W.Frag} {mg mb : Str → Option Value} {k : Nat} {fa a : Addr} {fd : FuncData} {x : Str} {s1 : Shared} {vs : List Value} {ns : List Int} {cl : Cl} {g : Fn}
/-- the abstract heap at the law's entry: the script alone, where it is none of the module's own objects -/
def entryH (K : PySem.W.Frag) (a : Addr) (o : Obj) (xs : List V) : Hp := fun b => if b = a ∧ (K.lookup a).isNone = true then some (.frz o (.lst xs)) else none
theorem entryH_at {o : Obj} {xs : List V} {b : Addr} {u : HO} (h : entryH K a o xs b = some u) : b = a ∧ K.lookup a = none ∧ u = .frz o (.lst xs) := by
  unfold entryH at h
  split at h
  · next hc => cases h; exact ⟨hc.1, by simpa using hc.2, rfl⟩
  · cases h
end
end Nv
set_option Elab.async false
set_option linter.all false
set_option maxRecDepth 100000
set_option maxHeartbeats 4000000
namespace Nv
open PySem PySem.Spec PyProof.Rows L2
section
variable {cl : Cl} {X : Cx}
/-! ### a def that returns a new object -/
structure RetF (T : Tab) (F H : Hp) (F' H' : Hp) (p : Addr) (d : D) : Prop where
  f : Same F F'
  le : Le F' H'
  keep : ∀ b o, H b = some o → H' b = some o
  more : ∀ b, H b ≠ none → H' b ≠ none
  fr : ∀ b, F' b ≠ none → F b ≠ none ∨ H b = none
  new : H p = none
  free : F' p = none
  sh : Sh T F' H' p d
def toSpF (T : Tab) (n : Nat) (g : List D → Out D) : Sp := fun vs H Q _ => vs.length = n ∧ ∃ F ds d, Le F H ∧ Reps T F ds vs ∧ g ds = .ok d ∧ ∀ p F' H', RetF T F H F' H' p d → Q (.ref p) H'
/-- its body is one return of a new object -/
def fnNew (n : Nat) (f : SF) (ds : List D) : Out D := do
  let (d, _) ← f (ds.map .val ++ List.replicate (n - ds.length) .un) []
  .ok d
theorem ok_fnF {P : Program} {w : World} {K : PySem.W.Frag} {mg : Str → Option Value} {base : Heap} {x qual : Str} {st : Stmt} {f : Addr} {fd : FuncData} {N ps : List Str} {k : Nat} {g : SF} {e : Expr} {rpos : Pos} (F : Fun K x qual st f fd) (S : FnScope N ps (defScope st)) (hst : defBody st = [.Return (some e) rpos])
    (hb : ∀ (cdv : Value) (A : Around) (outer : List Env) (s : Shared) (H : Hp) (E : XK), RoomG k (A.deeper (envOfC qual (defScope st) s.heap.objs.size f cdv)) →
      FE cl (cxOf CX0 P w K mg base N qual (defScope st) f cdv A outer s H E).nox e g) :
    FnG P w K mg base (k + 1) f fd ps (toSpF ⟨K, cl⟩ ps.length (fnNew N.length g)) := by
  refine Nv.Fun.okG F S (fun vs H Q E h => h.1) fun cdv A outer s H vs Q E hr h => ?_
  obtain ⟨hl, Fz, ds, d, le, rs, e1, kk⟩ := h
  obtain ⟨t, h1, h2⟩ := (hb cdv A outer s H E hr).ex
  rw [hst]
  refine ⟨_, pss_one (ps_ret h1), ?_⟩
  obtain ⟨⟨d', m'⟩, e2, e3⟩ := bind_ok e1
  cases e3
  have hpl : ps.length ≤ N.length := by have := congrArg List.length S.pre; rw [List.length_take] at this; omega
  have hlen := rs.length
  have R : Rl ⟨K, cl⟩ ⟨Fz, []⟩ (L2.start N vs) H (ds.map .val ++ List.replicate (N.length - ds.length) .un) [] := by
    refine ⟨le, fun i s e n => ?_, ?_, rfl, fun j c p e1 e2 => by simp at e1, fun j p e => by simp at e, fun i j p e1 e2 => by simp at e1⟩
    · by_cases hi : i < (ds.map Sl.val).length
      · rw [List.getElem?_append_left hi, List.getElem?_map] at e
        cases q : ds[i]? with
        | none => rw [q] at e; cases e
        | some di =>
          rw [q] at e; cases e
          obtain ⟨v, e1, z⟩ := rs.get q
          refine ⟨v, ?_, z⟩
          unfold L2.start
          rw [List.getElem?_append_left (by rw [List.length_map]; exact lt_of_get e1), List.getElem?_map, e1]
          rfl
      · rw [List.getElem?_append_right (by omega), List.getElem?_replicate] at e
        split at e
        · cases e; exact absurd rfl n
        · cases e
    · unfold L2.start
      rw [List.length_append, List.length_append, List.length_map, List.length_map, List.length_replicate, List.length_replicate]
      omega
  refine h2 ⟨Fz, []⟩ _ H _ _ R d m' e2 _ fun p W' H' st R' hn lo sh => ?_
  refine kk p W'.F H' ⟨st.w.f, R'.le, fun b o e => st.keep b o e (by simp), st.more, fun b e => ?_, hn, lo.f, sh⟩
  rcases st.fr b e with z | z | ⟨j, z⟩
  · exact .inl z
  · exact .inr z
  · simp at z
def fCallF (g : List D → Out D) (f : SA) : SF := fun r m => do
  let (ss, m1) ← f r m
  let (ds, m2) ← toDs ss m1
  let d ← g ds
  .ok (d, m2)
theorem fe_callF {k : Nat} {f : Addr} {fd : FuncData} {ps : List Str} {g : List D → Out D} {n : Nat} {x : Str} {p pos : Pos} {e : Expr} {es : List Expr} {fa : SA} (F : FnG X.prog X.w X.K X.mg X.base k f fd ps (toSpF ⟨X.K, cl⟩ n g)) (hr : RoomG k X.A) (hg : Gl X x) (hm : X.mg x = some (.ref f)) (hk : PySem.W.keepIn X.K (.ref f) = true) (hb : Binds X.K fd ps []) (hn : (e :: es).length = n) (ha : DA cl X (e :: es) fa)
    (hlen : ∀ r m ss m', fa r m = .ok (ss, m') → ss.length = (e :: es).length)
    (hdb : (x == ("__debug__" : Str)) = false := by decide) (he : starEach (e :: es) X.env = (false, eval e X.env) :: starEach es X.env := by rfl) (hpl : (backTo pos (starEach es X.env)).any (·.1) = false := by rfl) :
    FE cl X (.Call (.Name x p) (e :: es) [] pos) (fCallF g fa) := by
  obtain ⟨t, h1, h2⟩ := ha.ex
  refine ⟨fun σ H Q => t σ H fun vs H1 => toSpF ⟨X.K, cl⟩ n g vs H1 Q E0, ⟨fun pins s σ H Q I h => ?_⟩, fun W σ H r m R d m' e Q k => ?_⟩
  · refine wpAny_Call_Name_kw (ld_glob I hg hm ?_ hdb)
    refine PySem.W.callWith_K (h₀ := X.base) I.ok.mod.kin hk (thn (h1.run pos pins s σ H _ I h) fun us s1 ⟨vs, H1, I1, r, q⟩ => ⟨I1.kIn, ?_⟩) he hpl
    exact run_fnG F hr (fun hl => by have := hb s1 us I1.kIn (by rw [List.append_nil]; exact hl); rwa [List.append_nil] at this) I1 r q
  · obtain ⟨⟨ss, m1⟩, e1, e⟩ := bind_ok e
    obtain ⟨⟨ds, m2⟩, e2, e⟩ := bind_ok e
    obtain ⟨d', e3, e⟩ := bind_ok e
    cases e
    refine h2 W σ H r m R ss m1 e1 _ fun vs W1 H1 w1 R1 z1 => ?_
    obtain ⟨W2, w2, R2, z2⟩ := R1.toDs z1 e2
    refine ⟨by rw [z1.length, hlen _ _ _ _ e1, hn], W2.F, ds, d, R2.le, z2, e3, fun p F' H' ret => ?_⟩
    have fnone : ∀ (j : Nat) (p : Addr), W2.al[j]? = some p → W2.F p = none → F' p = none := fun j p e hf => by
      cases q : F' p with
      | none => rfl
      | some o =>
        rcases ret.fr p (by rw [q]; exact fun z => nomatch z) with z | z
        · exact absurd hf z
        · exact absurd z (R2.live j p e)
    have R3 : Rl ⟨X.K, cl⟩ ⟨F', W2.al⟩ σ H' r m' := by
      refine ⟨ret.le, fun i s e n => ?_, R2.len, R2.ml, fun j c p e1 e2 => ?_, fun j p e => ret.more p (R2.live j p e), R2.inj⟩
      · obtain ⟨u, q1, q2⟩ := R2.sl i s e n
        exact ⟨u, q1, q2.mono (W' := ⟨F', W2.al⟩) ⟨ret.f, fun _ _ z => z⟩⟩
      · exact (R2.ce j c p e1 e2).mono ret.f (fnone j p e2) fun o ho => ret.keep p o ho
    have w := w1.trans w2
    refine k p ⟨F', W2.al⟩ H' (w.trans ⟨⟨ret.f, fun _ _ z => z⟩, fun b o e n => ret.keep b o e, ret.more, fun _ _ z => .inl z, fun b e => ?_, fun b o _ e => ret.keep b o e⟩) R3 (w.free ret.new) ⟨ret.free, fun j z => R2.live j p z ret.new⟩ ret.sh
    rcases ret.fr b e with z | z
    · exact .inl z
    · exact .inr (.inl z)
/-! ### -n, a < b < c, a, b = list -/
def dNeg (d : D) : Out D := match d with
  | .int i => .ok (.int (-i))
  | _ => .bad
def sNeg (f : SE) : SE := fun r m => do
  let (s, m1) ← f r m
  let d ← view m1 s
  let x ← dNeg d
  .ok (.val x, m1)
theorem de_neg {a : Expr} {pos : Pos} {f : SE} (h : DE cl X a f) : DE cl X (.UnaryOp .USub a pos) (sNeg f) := by
  obtain ⟨t, h1, h2⟩ := h.ex
  refine ⟨_, pe_un un_neg h1, fun W σ H r m R s m' e Q k => ?_⟩
  obtain ⟨⟨s0, m1⟩, e1, e⟩ := bind_ok e
  obtain ⟨d, e2, e⟩ := bind_ok e
  obtain ⟨x, e3, e⟩ := bind_ok e
  cases e
  refine h2 W σ H r m R s0 _ e1 _ fun v W1 H1 w1 R1 z1 => ?_
  cases d with
  | int i =>
    cases e3
    have := (R1.view z1 e2).int
    subst this
    exact ⟨i, rfl, k _ W1 H1 w1 R1 rfl⟩
  | _ => cases e3
end
/-! ### a def as its callers see it -/
structure Cal (P : Program) (w : World) (K : PySem.W.Frag) (mg : Str → Option Value) (base : Heap) (cl : Cl) (x : Str) (st : Stmt) (k : Nat) (ps : List Str) (g : Fn) : Prop where
  ex : ∃ (f : Addr) (fd : FuncData), mg x = some (.ref f) ∧ Fun K x x st f fd ∧ Binds K fd ps [] ∧ FnG P w K mg base k f fd ps (toSp ⟨K, cl⟩ ps.length g)
structure CalF (P : Program) (w : World) (K : PySem.W.Frag) (mg : Str → Option Value) (base : Heap) (cl : Cl) (x : Str) (k : Nat) (ps : List Str) (g : List D → Out D) : Prop where
  ex : ∃ (f : Addr) (fd : FuncData), mg x = some (.ref f) ∧ PySem.W.keepIn K (.ref f) = true ∧ Binds K fd ps [] ∧ FnG P w K mg base k f fd ps (toSpF ⟨K, cl⟩ ps.length g)
section
variable {cl : Cl} {X : Cx} {x : Str} {st : Stmt} {k : Nat} {ps ks : List Str} {g : Fn} {gr : List D → Out D} {p p2 pos : Pos} {e : Expr} {es : List Expr} {kws : List Keyword} {fa : SA} {fe : SE}
theorem c_call (C : Cal X.prog X.w X.K X.mg X.base cl x st k ps g) (hr : RoomG k X.A) (hg : Gl X x) (fl : List Bool) (hn : fl.length = ps.length) (ha : DA cl X (e :: es) fa)
    (hdb : (x == ("__debug__" : Str)) = false := by decide) (he : starEach (e :: es) X.env = (false, eval e X.env) :: starEach es X.env := by rfl) (hpl : (backTo pos (starEach es X.env)).any (·.1) = false := by rfl) : DE cl X (.Call (.Name x p) (e :: es) [] pos) (sCall fl g fa) := by
  obtain ⟨f, fd, h1, h2, h3, h4⟩ := C.ex
  exact de_call h4 hr hg h1 h2.kp h3 fl hn ha hdb he hpl
theorem c_callK (perm : List Nat) (C : Cal X.prog X.w X.K X.mg X.base cl x st k ps g) (hr : RoomG k X.A) (hg : Gl X x)
    (hb : ∀ (kV doc pm : Value) (an : Option Addr) (cdv ct : Value) (ws : List Value), ws.length = ks.length → bindArgs (PySem.W.fnOf x x (defArgs st) (defBody st) (defScope st) .none kV doc pm an cdv ct) ⟨[], ks.zip ws⟩ = pure (ps.zip (permL perm ws)))
    (fl : List Bool) (hn : fl.length = ps.length) (ha : DK cl X kws fa)
    (hall : (backToKw pos (keywordEach kws X.env)).all (·.1.isSome) = true := by rfl) (hks : (backToKw pos (keywordEach kws X.env)).filterMap (·.1) = ks := by rfl)
    (hdb : (x == ("__debug__" : Str)) = false := by decide) (hpl : ((backTo pos (starEach [] X.env)).any (·.1) || (backToKw pos (keywordEach kws X.env)).any (·.1.isNone)) = false := by rfl) :
    DE cl X (.Call (.Name x p) [] kws pos) (sCall fl g (aPerm ks.length perm fa)) := by
  obtain ⟨f, fd, h1, h2, h3, h4⟩ := C.ex
  refine de_callK perm h4 hr hg h1 h2.kp (fun s ws hl => ?_) fl hn ha hall hks hdb hpl
  obtain ⟨oc, od, kV, doc, pm, an, cdv, ct, osl, rfl, lk, hcd⟩ := h2.ex
  exact .of_eq (hb kV doc pm an cdv ct ws hl)
theorem aCons_len {f : SE} {g : SA} {n : Nat} (h : ∀ r m ss m', g r m = .ok (ss, m') → ss.length = n) : ∀ r m ss m', aCons f g r m = .ok (ss, m') → ss.length = n + 1 := fun r m ss m' e => by
  obtain ⟨⟨s, m1⟩, e1, e⟩ := bind_ok e
  obtain ⟨⟨ss', m2⟩, e2, e⟩ := bind_ok e
  cases e
  simp [h _ _ _ _ e2]
theorem aNil_len : ∀ r m ss m', aNil r m = .ok (ss, m') → ss.length = 0 := fun r m ss m' e => by cases e; rfl
theorem c_callF (C : CalF X.prog X.w X.K X.mg X.base cl x k ps gr) (hr : RoomG k X.A) (hg : Gl X x) (hn : (e :: es).length = ps.length) (ha : DA cl X (e :: es) fa) (hlen : ∀ r m ss m', fa r m = .ok (ss, m') → ss.length = (e :: es).length)
    (hdb : (x == ("__debug__" : Str)) = false := by decide) (he : starEach (e :: es) X.env = (false, eval e X.env) :: starEach es X.env := by rfl) (hpl : (backTo pos (starEach es X.env)).any (·.1) = false := by rfl) : FE cl X (.Call (.Name x p) (e :: es) [] pos) (fCallF gr fa) := by
  obtain ⟨f, fd, h1, h2, h3, h4⟩ := C.ex
  exact fe_callF h4 hr hg h1 h2 h3 hn ha hlen hdb he hpl
end
end Nv
set_option Elab.async false
set_option linter.all false
set_option maxRecDepth 100000
namespace Nv
open PySem PySem.Spec PyProof.Rows L2
theorem hu65 {k : Nat} {A : Around} (r : RoomG k A) : A.units + 190 < cLine := by have := r.room.un; omega
end Nv
namespace Nv
open PySem PySem.Spec PyProof.Rows L2
/-- a def of the module's top, as the head tells it -/
structure DefAt (K : PySem.W.Frag) (x : Str) (st : Stmt) : Prop where
  ex : ∃ (f : Addr) (oc : Value) (od : Option Addr) (kV dc pm : Value) (an : Option Addr) (cd ct : Value) (sl : Array (Option Value)), PySem.W.nsIn K mainGlobals x = some (some (.ref f)) ∧
    K.lookup f = some ⟨oc, od, .func (PySem.W.fnOf x x (defArgs st) (defBody st) (defScope st) .none kV dc pm an cd ct), sl⟩ ∧ PySem.W.codeIn K cd x = true ∧ PySem.W.keepIn K (.ref f) = true
theorem mkDef {K : PySem.W.Frag} {x : Str} {st : Stmt} {f : Addr} {oc : Value} {od : Option Addr} {kV dc pm : Value} {an : Option Addr} {cd ct : Value} {sl : Array (Option Value)} (a : PySem.W.nsIn K mainGlobals x = some (some (.ref f)))
    (l : K.lookup f = some ⟨oc, od, .func (PySem.W.fnOf x x (defArgs st) (defBody st) (defScope st) .none kV dc pm an cd ct), sl⟩) (c : PySem.W.codeIn K cd x = true) (k : PySem.W.keepIn K (.ref f) = true) : DefAt K x st :=
  ⟨f, oc, od, kV, dc, pm, an, cd, ct, sl, a, l, c, k⟩
theorem DefAt.fn {K : PySem.W.Frag} {x : Str} {st : Stmt} {h : Heap} {mg : Str → Option Value} (D : DefAt K x st) (X : K.In h) (G : h.Ns mainGlobals mg) : ∃ (f : Addr) (fd : FuncData), mg x = some (.ref f) ∧ Fun K x x st f fd := by
  obtain ⟨f, oc, od, kV, dc, pm, an, cd, ct, sl, a, l, c, k⟩ := D.ex
  exact ⟨f, _, PySem.W.mg_of X G a, fun_mk l c k⟩
theorem Fun.bindsTo {K : PySem.W.Frag} {x : Str} {st : Stmt} {f : Addr} {fd : FuncData} {p : Str} (F : Fun K x x st f fd)
    (h : ∀ (kV doc pm : Value) (an : Option Addr) (cdv ct v : Value), bindArgs (PySem.W.fnOf x x (defArgs st) (defBody st) (defScope st) .none kV doc pm an cdv ct) ⟨[v], []⟩ = pure [(p, v)]) (s : Shared) (v : Value) : BindsTo s fd ⟨[v], []⟩ [(p, v)] := by
  obtain ⟨oc, od, kV, doc, pm, an, cdv, ct, osl, rfl, lk, hcd⟩ := F.ex
  exact .of_eq (h kV doc pm an cdv ct v)
end Nv
set_option Elab.async false
set_option linter.all false
set_option maxRecDepth 100000
set_option maxHeartbeats 4000000
namespace Nv
open PySem PySem.Spec PyProof.Rows L2
/-! ### enumerate(tuple) -/
section
variable {cl : Cl} {X : Cx}
def enumD (ds : List D) : List D := ds.zipIdx.map fun p => .tup [.int (p.2 : Nat), p.1]
def iEnu (f : SE) : SI := fun r m => do
  let (s, m1) ← f r m
  let (d, m2) ← toD s m1
  match d with
  | .tup ds => .ok (enumD ds, m2)
  | _ => .bad
end
end Nv
set_option Elab.async false
set_option linter.all false
set_option maxRecDepth 100000
set_option maxHeartbeats 4000000
namespace Nv
open PySem PySem.Spec PyProof.Rows L2
section
variable {cl : Cl} {X : Cx}
/-! ### dict comprehensions -/
def dcS (g : SG) (ft : SB) (fk fe : SE) (r : List Sl) : List D → List (Key × D) → List Cell → Out (List (Key × D) × List Cell)
  | [], acc, m => .ok (acc, m)
  | d :: ds, acc, m => do
    let r1 ← g (.val d) r m
    let (b, m1) ← ft r1 m
    if b then
      let (s, m2) ← fk r1 m1
      let (kd, m3) ← toD s m2
      let (s2, m4) ← fe r1 m3
      let (x, m5) ← toD s2 m4
      match keyOf kd with
      | some k => if acc.length < sizeLine then dcS g ft fk fe r ds (putD acc k x) m5 else .bad
      | none => .bad
    else dcS g ft fk fe r ds acc m1
def fDc (vs : List Nat) (f : SI) (g : SG) (ft : SB) (fk fe : SE) : SF := fun r m => do
  let (ds, m1) ← f r m
  let (xs, m2) ← dcS g ft fk fe (wipeR r vs) ds [] m1
  .ok (.dct xs, m2)
/-! ### xs[::-1] -/
def dRev (d : D) : Out D := match d with
  | .lst xs => .ok (.lst xs.reverse)
  | _ => .bad
def fRev (f : SE) : SF := fun r m => do
  let (s, m1) ← f r m
  let d ← view m1 s
  let x ← dRev d
  .ok (x, m1)
/-! ### [..] * n -/
def dRepL (d e : D) : Out D := match d, e with
  | .lst xs, .int k => if -(2 ^ 63) ≤ k ∧ k < 2 ^ 63 ∧ xs.length * k.toNat ≤ sizeLine then .ok (.lst (List.replicate k.toNat xs).flatten) else .bad
  | _, _ => .bad
def rRepR : R2 := fun x y H Q => ∃ l k xs, x = .ref l ∧ y = .int k ∧ Rd H l (.lst xs) ∧ -(2 ^ 63) ≤ k ∧ k < 2 ^ 63 ∧ xs.length * k.toNat ≤ sizeLine ∧ ∀ p, H p = none → Q (.ref p) (upd H p (.lst (List.replicate k.toNat xs).flatten))
theorem op_repR : OpR X (binaryOp .Mult) rRepR := by
  intro pins s σ H x y v u Q I rx ry h
  obtain ⟨l, k, xs, rfl, rfl, hH, h1, h2, hz, q⟩ := h
  cases rx
  obtain ⟨t, rfl⟩ := ry
  obtain ⟨z, its, n, r, e⟩ := hH.ok I.hok
  have hl := r.length
  have hlen : its.toArray.size * k.toNat ≤ sizeLine := by rw [List.size_toArray, ← hl]; exact hz
  have hcap : ¬ its.toArray.size * k.toNat > (2 ^ 63 - 1) / 8 := by
    have : (sizeLine : Nat) ≤ (2 ^ 63 - 1) / 8 := by decide
    omega
  have hfit : ¬ (!Builtin.List.listFitsIndex k) = true := by
    rw [fitsIndex_both h1 h2]
    exact Bool.false_ne_true
  have hlong : ¬ Builtin.List.listTooLong (its.toArray.size * k.toNat) = true := by
    rw [notLongL hlen]
    exact Bool.false_ne_true
  have hnew : List.foldl (fun x1 x2 => x1 ++ x2) #[] (List.replicate (if its.toArray.isEmpty = true then 0 else k.toNat) its.toArray) = (List.replicate k.toNat its).flatten.toArray := by
    have f0 : ∀ m : Nat, List.foldl (fun x1 x2 => x1 ++ x2) #[] (List.replicate m its.toArray) = (List.replicate m its).flatten.toArray := fun m => by
      have := foldl_rep its m []
      rw [List.nil_append] at this
      exact this
    rw [f0]
    cases its with
    | nil => simp
    | cons a r' => rw [if_neg (by simp)]
  refine wpAny_binaryOp_repeat_ref (T := "list") (U := "int") (by decide) ⟨_, e, rfl⟩ (fun s' => typeIs_int s' k t) noFill_list_mul F.fills_int_mul F.slot_int_rmul repeat_list F.slot_int_index.lookup
    (call_meets F.slot_int_rmul (typeIs_int s k t) F.entry_int_rmul (F.args_int_rmul_2 _ _) (int___rmul___int_list k t l its.toArray n)
      ⟨e, rfl, ⟨_, e, rfl⟩, call_meets F.slot_list_mul ⟨_, e, rfl⟩ F.entry_list_mul (F.args_list_mul_2 _ _) (AutoListH.list___mul___list_int_3 l its.toArray n k t hfit hcap hlong) ⟨e, ?_⟩⟩)
  rw [hnew]
  exact ⟨.ref _, _, I.lnew (t' := s.toks) (r.rep k.toNat) (by rw [PyProof.Rows.lm_len_rep_flat, Nat.mul_comm]; exact hz), rfl, q _ I.fresh⟩
theorem Reps.rep {T : Tab} {F : Hp} {ds : List D} {vs : List V} (h : Reps T F ds vs) : ∀ n : Nat, Reps T F (List.replicate n ds).flatten (List.replicate n vs).flatten
  | 0 => rfl
  | n + 1 => by
    rw [List.replicate_succ, List.replicate_succ, List.flatten_cons, List.flatten_cons]
    exact h.append (Reps.rep h n)
theorem of_repL {T : Tab} : OpF T rRepR dRepL := by
  intro F H x y dx dy d le hx hy e Q k
  cases dx with
  | lst xs => cases dy with
    | int n =>
      obtain ⟨hz, e⟩ := ite_ok e
      cases e
      obtain ⟨p, vs, rfl, s, r⟩ := hx.lst le
      cases hy.int
      exact ⟨p, n, vs, rfl, rfl, s, hz.1, hz.2.1, by rw [r.length]; exact hz.2.2, fun q hq => k q _ hq (le.none hq) ⟨_, upd_same, Reps.rep r _⟩⟩
    | _ => cases e
  | _ => cases e
/-! ### list(d) -/
def kD : Key → D
  | .inl i => .int i
  | .inr x => .str x
/-! ### f-strings -/
end
end Nv
set_option Elab.async false
set_option linter.all false
set_option maxRecDepth 100000
set_option maxHeartbeats 4000000
namespace Nv
open PySem PySem.Spec PyProof.Rows L2
/-! ### repr of data with dicts -/
def SysB (base : Heap) : Prop := ∃ mm, base.Ns sysModules mm
section
variable {X : Cx} {cl : Cl} {pins : List (Addr × Obj)} {σ : L2.St} {H F : Hp} {s : Shared}
theorem sys_free (I : Inv X pins σ H s) (hB : SysB X.base) : H sysModules = none := by
  obtain ⟨mm, o, es, ep, e, _⟩ := hB
  exact (I.bs _ o e).2
theorem rd_ne_sys (I : Inv X pins σ H s) (hB : SysB X.base) {a : Addr} {xs : List V} (h : Rd H a (.lst xs)) : sysModules ≠ a := by
  rintro rfl
  have := sys_free I hB
  rcases h with h | ⟨o, h⟩
  · rw [this] at h; cases h
  · rw [this] at h; cases h
def kP : Key → PyData
  | .inl i => .int i
  | .inr x => .str x
mutual
theorem Rep.reads (I : Inv X pins σ H s) (hB : SysB X.base) (le : Le F H) : ∀ (d : D) (p : PyData) (v : V) (u : Value), d.py = some p → Rep ⟨X.K, cl⟩ F d v → RelV v u → ∃ as, Reads s.heap u p as ∧ sysModules ∉ as
  | .non, p, v, u, e, h, r => by
    simp only [D.py, Option.some.injEq] at e; subst e
    simp only [Rep] at h; subst h; cases r
    exact ⟨_, .none, by simp⟩
  | .bl b, p, v, u, e, h, r => by
    simp only [D.py, Option.some.injEq] at e; subst e
    simp only [Rep] at h; subst h; cases r
    exact ⟨_, .bool b, by simp⟩
  | .int i, p, v, u, e, h, r => by
    simp only [D.py, Option.some.injEq] at e; subst e
    simp only [Rep] at h; subst h; obtain ⟨t, rfl⟩ := r
    exact ⟨_, .int i t, by simp⟩
  | .str x, p, v, u, e, h, r => by
    simp only [D.py, Option.some.injEq] at e; subst e
    simp only [Rep] at h; subst h; obtain ⟨t, rfl⟩ := r
    exact ⟨_, .str x t, by simp⟩
  | .lst ds, p, v, u, e, h, r => by
    simp only [D.py, Option.map_eq_some_iff] at e
    obtain ⟨ps, e, rfl⟩ := e
    simp only [Rep] at h
    obtain ⟨a, vs, rfl, hr, rs⟩ := h
    cases r
    obtain ⟨its, rv, ⟨o, n, ho, hc, _, hd⟩, _⟩ := I.list (.inl (le.rdL hr))
    obtain ⟨as, h1, h2⟩ := Reps.reads I hB le ds ps vs its e rs rv
    exact ⟨_, .list ho hc hd h1, by simp only [List.mem_cons, not_or]; exact ⟨rd_ne_sys I hB (le.rdL hr), h2⟩⟩
  | .tup ds, p, v, u, e, h, r => by
    simp only [D.py, Option.map_eq_some_iff] at e
    obtain ⟨ps, e, rfl⟩ := e
    simp only [Rep] at h
    obtain ⟨a, vs, rfl, hr, rs⟩ := h
    cases r
    obtain ⟨its, rv, ⟨o, ho, hc, n, hd⟩, _⟩ := I.tuple (le.sqT hr)
    obtain ⟨as, h1, h2⟩ := Reps.reads I hB le ds ps vs its e rs rv
    exact ⟨_, .tuple ho hc hd h1, h2⟩
  | .dct ks, p, v, u, e, h, r => by
    simp only [D.py, Option.map_eq_some_iff] at e
    obtain ⟨ps, e, rfl⟩ := e
    simp only [Rep] at h
    obtain ⟨a, kvs, rfl, hr, rs⟩ := h
    cases r
    have hrd : Rd H a (.dK kvs) := by
      rcases le _ _ hr with q | ⟨_, ob, q⟩
      · exact .inl q
      · exact .inr ⟨ob, q⟩
    obtain ⟨z, lo, vs, rel, dd⟩ := dk_rd I.hok hrd
    obtain ⟨as, h1, h2⟩ := RepK.reads I hB le ks ps kvs vs e rs rel
    refine ⟨_, PyProof.V.reads_dictOf (enc := kP) (fun k key hk => ?_) dd h1, ?_⟩
    · rcases keyIs_shape hk with ⟨i, t, rfl, rfl⟩ | ⟨x, t, rfl, rfl⟩
      · exact .int i t
      · exact .str x t
    · simp only [List.mem_cons, not_or]
      exact ⟨fun q => by rw [← q] at lo; simp at lo, h2⟩
  | .ins _ _, p, v, u, e, h, r => by simp only [D.py] at e; cases e
  | .scr _, p, v, u, e, h, r => by simp only [D.py] at e; cases e
  | .cls _, p, v, u, e, h, r => by simp only [D.py] at e; cases e
  | .exc _ _, p, v, u, e, h, r => by simp only [D.py] at e; cases e
theorem Reps.reads (I : Inv X pins σ H s) (hB : SysB X.base) (le : Le F H) : ∀ (ds : List D) (ps : List PyData) (vs : List V) (us : List Value), pyAll ds = some ps → Reps ⟨X.K, cl⟩ F ds vs → Vals vs us → ∃ as, ReadsAll s.heap us ps as ∧ sysModules ∉ as
  | [], ps, vs, us, e, h, r => by
    simp only [pyAll, Option.some.injEq] at e; subst e
    simp only [Reps] at h; subst h
    cases r
    exact ⟨_, .nil, by simp⟩
  | d :: ds, ps, vs, us, e, h, r => by
    simp only [pyAll] at e
    cases e1 : d.py with
    | none => rw [e1] at e; cases e
    | some p =>
      cases e2 : pyAll ds with
      | none => rw [e1, e2] at e; cases e
      | some ps' =>
        rw [e1, e2] at e; cases e
        simp only [Reps] at h
        obtain ⟨v, vr, rfl, z, t⟩ := h
        cases r with
        | cons r1 r2 =>
          obtain ⟨as, a1, a2⟩ := Rep.reads I hB le d p v _ e1 z r1
          obtain ⟨bs, b1, b2⟩ := Reps.reads I hB le ds ps' vr _ e2 t r2
          exact ⟨_, .cons a1 b1, by simp only [List.mem_append, not_or]; exact ⟨a2, b2⟩⟩
theorem RepK.reads (I : Inv X pins σ H s) (hB : SysB X.base) (le : Le F H) : ∀ (ks : List (Key × D)) (ps : List (PyData × PyData)) (kvs : List (Key × V)) (vs : List (Key × Value)), pyKv ks = some ps → RepK ⟨X.K, cl⟩ F ks kvs → KV kvs vs → ∃ as, PyProof.V.PairsRead s.heap kP vs ps as ∧ sysModules ∉ as
  | [], ps, kvs, vs, e, h, r => by
    simp only [pyKv, Option.some.injEq] at e; subst e
    simp only [RepK] at h; subst h
    cases r
    exact ⟨_, .nil, by simp⟩
  | (k, d) :: ks, ps, kvs, vs, e, h, r => by
    simp only [pyKv] at e
    cases e1 : d.py with
    | none => rw [e1] at e; cases e
    | some p =>
      cases e2 : pyKv ks with
      | none => rw [e1, e2] at e; cases e
      | some ps' =>
        rw [e1, e2] at e
        simp only [Option.some.injEq] at e; subst e
        simp only [RepK] at h
        obtain ⟨v, vr, rfl, z, t⟩ := h
        cases r with
        | @cons _ q _ l2 r1 r2 =>
          obtain ⟨kq, uq⟩ := q
          obtain ⟨r0, r1⟩ := r1
          have r0 : k = kq := r0
          subst r0
          obtain ⟨as, a1, a2⟩ := Rep.reads I hB le d p v _ e1 z r1
          obtain ⟨bs, b1, b2⟩ := RepK.reads I hB le ks ps' vr _ e2 t r2
          refine ⟨as ++ bs, ?_, by simp only [List.mem_append, not_or]; exact ⟨a2, b2⟩⟩
          cases k with
          | inl i => exact .cons a1 b1
          | inr x => exact .cons a1 b1
end
/-- what stands there, shared or a cell's -/
theorem ShV.reads (I : Inv X pins σ H s) (hB : SysB X.base) (le : Le F H) {d : D} {p : PyData} {v : V} {u : Value} (e : d.py = some p) (h : ShV ⟨X.K, cl⟩ F H d v) (r : RelV v u) : ∃ as, Reads s.heap u p as ∧ sysModules ∉ as := by
  rcases h with h | ⟨q, rfl, h⟩
  · exact Rep.reads I hB le d p v u e h r
  · cases r
    cases d with
    | lst ds =>
      simp only [D.py, Option.map_eq_some_iff] at e
      obtain ⟨ps, e, rfl⟩ := e
      obtain ⟨vs, hH, rs⟩ := h
      obtain ⟨its, rv, ⟨o, n, ho, hc, _, hd⟩, _⟩ := I.list (.inl (.inl hH))
      obtain ⟨as, h1, h2⟩ := Reps.reads I hB le ds ps vs its e rs rv
      exact ⟨_, .list ho hc hd h1, by simp only [List.mem_cons, not_or]; exact ⟨rd_ne_sys I hB (.inl hH), h2⟩⟩
    | dct ks =>
      simp only [D.py, Option.map_eq_some_iff] at e
      obtain ⟨ps, e, rfl⟩ := e
      obtain ⟨kvs, hH, rs⟩ := h
      obtain ⟨z, lo, vs, rel, dd⟩ := dk_rd I.hok (.inl hH)
      obtain ⟨as, h1, h2⟩ := RepK.reads I hB le ks ps kvs vs e rs rel
      refine ⟨_, PyProof.V.reads_dictOf (enc := kP) (fun k key hk => ?_) dd h1, ?_⟩
      · rcases keyIs_shape hk with ⟨i, t, rfl, rfl⟩ | ⟨x, t, rfl, rfl⟩
        · exact .int i t
        · exact .str x t
      · simp only [List.mem_cons, not_or]
        exact ⟨fun q => by rw [← q] at lo; simp at lo, h2⟩
    | ins c fs => simp only [D.py] at e; cases e
    | _ => exact h.elim
end
section
variable {cl : Cl} {X : Cx}
def dReprD (ds : List D) : Out D := match ds with
  | [d] => match d.py with
    | some p => if p.showable = true ∧ p.shown.length ≤ sizeLine ∧ p.depth ≤ 125 then .ok (.str p.shown) else .bad
    | none => .bad
  | _ => .bad
def rReprD (T : Tab) : List V → Hp → VK → Prop := fun xs H Q => ∃ F x d p, xs = [x] ∧ Le F H ∧ ShV T F H d x ∧ d.py = some p ∧ p.showable = true ∧ p.shown.length ≤ sizeLine ∧ p.depth ≤ 125 ∧ Q (.str p.shown) H
theorem call_reprD (hr : X.A.units + 190 < cLine) (hg : X.A.guards = some []) (hB : SysB X.base) : CallR X (.builtin "repr") (rReprD ⟨X.K, cl⟩) := by
  intro pins s σ H xs us Q I r h
  obtain ⟨F, x, d, p, rfl, le, hx, hp, c2, c3, c4, q⟩ := h
  obtain ⟨u, rfl, rx⟩ := vals1 r
  obtain ⟨as, rd, ns⟩ := ShV.reads I hB le hp hx rx
  cases rd with
  | none => exact PySem.P.repr_of_none ⟨.str _, H, I.tok _, ⟨_, rfl⟩, by simpa only [PyData.shown] using q⟩
  | bool b => exact PySem.P.repr_of_bool ⟨.str _, H, I.tok _, ⟨_, rfl⟩, by simpa only [PyData.shown] using q⟩
  | int i t =>
    simp only [PyData.showable, decide_eq_true_eq] at c2
    exact PySem.P.repr_of_int c2 ⟨.str _, H, I.tok _, ⟨_, rfl⟩, by simpa only [PyData.shown] using q⟩
  | str z t => exact PySem.P.repr_of_str ⟨.str _, H, I.tok _, ⟨_, rfl⟩, by simpa only [PyData.shown] using q⟩ c3
  | list h1 h2 h3 h4 => exact repr_of_reads' (.list h1 h2 h3 h4) c2 (fun _ => ns) hg (by omega) (fun _ _ e => e) (fun h' t tk hk => ⟨.str _, H, I.kept hk, ⟨_, rfl⟩, q⟩) c3
  | tuple h1 h2 h3 h4 => exact repr_of_reads' (.tuple h1 h2 h3 h4) c2 (fun _ => ns) hg (by omega) (fun _ _ e => e) (fun h' t tk hk => ⟨.str _, H, I.kept hk, ⟨_, rfl⟩, q⟩) c3
  | dict h1 h2 h3 h4 h5 => exact repr_of_reads' (.dict h1 h2 h3 h4 h5) c2 (fun _ => ns) hg (by omega) (fun _ _ e => e) (fun h' t tk hk => ⟨.str _, H, I.kept hk, ⟨_, rfl⟩, q⟩) c3
theorem ca_reprD : CaD ⟨X.K, cl⟩ (rReprD ⟨X.K, cl⟩) dReprD := by
  intro F H xs ds d le h e Q k1 k2
  unfold dReprD at e
  split at e
  · rename_i d0
    cases q : d0.py with
    | none => rw [q] at e; cases e
    | some p =>
      rw [q] at e
      obtain ⟨⟨c2, c3, c4⟩, e⟩ := ite_ok e
      cases e
      obtain ⟨v, rfl, z⟩ := h.one
      exact ⟨F, v, d0, p, rfl, le, z, q, c2, c3, c4, k1 _ rfl⟩
  · cases e
end
end Nv
set_option Elab.async false
set_option linter.all false
set_option maxRecDepth 100000
set_option maxHeartbeats 4000000
namespace Nv
open PySem PySem.Spec PyProof.Rows L2
section
variable {P : Program} {w : World} {K : PySem.W.Frag} {mg mb : Str → Option Value} {k : Nat} {fa a : Addr} {fd : FuncData} {x : Str} {s1 : Shared} {vs : List Value} {ns : List Int} {cl : Cl} {g : Fn}
theorem law_G2 (KX : K.In s1.heap) (hns : s1.heap.Ns mainGlobals mg) (hb : s1.heap.Ns builtinsNs mb) (hbb : ∀ x : Str, x ≠ "__name__" → mb x = bootBuiltins x) (hlim : s1.heap.NoLimit) (hsy : SysB s1.heap) (hg : s1.gens = #[])
    (ha : s1.heap.get? a = some { cls := .type "list", data := .seq vs.toArray }) (hi : IntsAre vs ns) (hl : ns.length ≤ sizeLine) (hr : Room k callerA)
    (F : ∀ base : Heap, K.In base → base.Ns mainGlobals mg → SysB base → FnG P w K mg base k fa fd [x] (toSp ⟨K, cl⟩ 1 g)) (hbind : ∀ (s : Shared) (u : Value), BindsTo s fd ⟨[u], []⟩ [(x, u)])
    (hgood : g [.v (.scr ns)] = .ok (.bl true, [])) :
    codeAny (model P w) callerA (.call (.ref fa) ⟨[.ref a], []⟩) (fun r s' => r = .ok (.ret (.bool true)) ∧ OldK s1.heap s'.heap ∧ s'.os = s1.os ∧ AllBare s'.gens) s1 := by
  have rv := vals_ints hi
  let o : Obj := { cls := .type "list", data := .seq vs.toArray }
  generalize hH : entryH K a o (ns.map V.int) = H
  have atH : ∀ b u, H b = some u → b = a ∧ K.lookup a = none ∧ u = .frz o (.lst (ns.map V.int)) := fun b u h => entryH_at (by rw [hH]; exact h)
  have hok : HOk P w H s1.heap := fun b u h => by
    obtain ⟨rfl, _, rfl⟩ := atH b u h
    exact ⟨ha, by rw [List.length_map]; exact hl, vs, _, rv, ha⟩
  have seen : ∀ {b : Addr} {ob : Obj}, s1.heap.get? b = some ob → H b = none → (hidT s1.heap H).get? b = some ob := fun e n => hidT_get e n
  have notDict : ∀ {b : Addr} {m : Str → Option Value}, s1.heap.Ns b m → (hidT s1.heap H).Ns b m := by
    rintro b m ⟨ob, es, ep, e, d, r⟩
    refine ⟨ob, es, ep, seen e ?_, d, r⟩
    cases q : H b with
    | none => rfl
    | some u =>
      obtain ⟨rfl, _, _⟩ := atH b u q
      rw [ha] at e; cases e
      cases (show Data.seq vs.toArray _ = Data.dict es ep from d)
  have hKb : K.In (hidT s1.heap H) := fun b ob e => by
    refine seen (KX b ob e) ?_
    cases q : H b with
    | none => rfl
    | some u =>
      obtain ⟨rfl, z, _⟩ := atH b u q
      rw [z] at e; cases e
  have hM : Mod K mg (hidT s1.heap H) := ⟨hKb, notDict hns, ⟨mb, notDict hb, hbb⟩, let ⟨mc, h1, h2⟩ := hlim; ⟨mc, notDict h1, h2⟩⟩
  have e0 : Env0 P w K mg (hidT s1.heap H) callerA [] s1 H :=
    ⟨rfl, hM, fun b ob e => of_hidT e, Nat.le_of_eq (hidT_size _ _), trivial, fun b hb => by simp [frs] at hb, hok, .of_eq hg⟩
  have hS : SqL K H a (ns.map V.int) := by
    cases q : K.lookup a with
    | none => exact .inl (.inr ⟨o, by rw [← hH]; unfold entryH; rw [if_pos ⟨rfl, by rw [q]; rfl⟩]⟩)
    | some ob =>
      have e := KX a ob q
      rw [ha] at e
      cases e
      have lv := hi.length
      exact .inr ⟨_, vs.toArray, _, q, rfl, rfl, rfl, by rw [List.size_toArray, lv]; exact hl, by simpa using rv⟩
  have hsp : toSp ⟨K, cl⟩ 1 g [.ref a] H (fun v _ => v = .bl true) E0 := by
    refine ⟨rfl, H, [.v (.scr ns)], [], .bl true, [], Le.refl _, ⟨.ref a, [], rfl, ?_, rfl, rfl⟩, List.nodup_nil, hgood, fun v F' H' _ rep => rep⟩
    simp only [Rep]
    exact ⟨a, rfl, hS⟩
  refine codeAny_mono ((F _ hKb (notDict hns) (hsy.imp fun mm h => notDict h)).run callerA [] s1 H ⟨[.ref a], []⟩ [.ref a] [.ref a] _ _ ⟨hr, rfl⟩ e0 (hbind s1 (.ref a)) (.cons rfl .nil) hsp) fun r s' h => ?_
  cases r with
  | error e => exact False.elim h
  | ok fl => cases fl with
    | ret u =>
      obtain ⟨v, H', os, bare, un, hok', r', q⟩ := h
      have q : v = .bl true := q
      subst q
      obtain rfl : u = Value.bool true := r'
      refine ⟨rfl, OldK.of_keep fun b ob e => ?_, os, bare⟩
      cases z : H b with
      | none => exact un.keep b ob e z (by simp [frs]) (by simp)
      | some u =>
        obtain ⟨rfl, _, rfl⟩ := atH b u z
        obtain ⟨e2, _⟩ := hok' _ _ (un.frzs _ _ _ z)
        rw [ha] at e; cases e
        exact e2
    | _ => exact False.elim h
end
theorem walkG2 {l : PySem.W.OpenLaw} {k : Nat} {q : Program} {loose : List Str} {XP : (Str → Option Value) → Heap → Prop} {YP : World → Heap → Prop} {d : DefRec} {K : Params → PySem.W.Frag} {x : Str} {g : Fn} (cl : World → (Str → Option Value) → Cl)
    (hn : l.most = some 63) (hdf : d.params.defaults = []) (hq : importsNone q = true) (hr : Room k callerA) (hY : ∀ (w : World) (h : Heap), YP w h → (K w.params).In h)
    (F : ∀ (w : World) (mg : Str → Option Value) (fa : Addr) (h : Heap), (K w.params).In h → h.Ns mainGlobals mg → mg d.name = some (.ref fa) →
      ∃ fd : FuncData, (∀ (s : Shared) (u : Value), BindsTo s fd ⟨[u], []⟩ [(x, u)]) ∧
        ∀ base : Heap, (K w.params).In base → base.Ns mainGlobals mg → SysB base → FnG l.prog w (K w.params) mg base k fa fd [x] (toSp ⟨K w.params, cl w mg⟩ 1 g))
    (hgood : ∀ ns : List Int, ns.length ≤ 63 → g [.v (.scr ns)] = .ok (.bl true, [])) :
    PySem.W.WalkO q loose XP YP l.row.toRowW d [] (fun f vs => PySem.call f vs) := by
  refine Att.attach_call hn hdf fun w s0 s1 mg mb fa o pm cd doc a vs ns G Y ho hd hcd hmg hobj hints hlen hg => ?_
  obtain ⟨fd, hb, hF⟩ := F w mg fa _ (hY w _ Y) G.T.g hmg
  exact law_G2 (hY w _ Y) G.T.g G.T.b G.T.builtins G.T.nolimit (let ⟨mm, h1, _⟩ := (G.T.seer hq).mods; ⟨mm, h1⟩) hg hobj hints (Nat.le_trans hlen (by decide)) hr hF hb (hgood ns hlen)
end Nv
set_option Elab.async false
set_option linter.all false
set_option maxRecDepth 100000
set_option maxHeartbeats 4000000
namespace Nv
open PySem L2 Nv
local macro_rules | `(tactic| walk_at "stE") => `(tactic| with_reducible first | refine wp_mu ?_ | refine wp_sif ?_ | refine wp_callR ?_ | refine wp_tup ?_ | refine wp_isi ?_ | refine wp_app ?_ | refine wp_ext ?_ | refine wp_sl ?_ | refine wp_get2 ?_ | refine wp_sand ?_)
local macro_rules | `(tactic| walk_at "stS") => `(tactic| with_reducible first | refine wp_ret ?_ | refine wp_drop ?_ | refine wp_ifs ?_ | refine wp_put ?_ | refine wp_setix ?_ | refine wp_for ?_)
local macro_rules | `(tactic| walk_at "stF") => `(tactic| with_reducible first | refine wp_lst ?_ | refine wp_mt ?_ | refine wp_lc ?_ | refine wp_rev ?_ | refine wp_s2 ?_ | refine wp_dc ?_)
local macro_rules | `(tactic| walk_at "stI") => `(tactic| with_reducible first | refine wp_iof ?_ | refine wp_range1 ?_ | refine wp_enu ?_)
local macro_rules | `(tactic| walk_at "stB") => `(tactic| with_reducible first | refine wp_btru ?_ | refine wp_bnot ?_ | refine wp_band ?_ | refine wp_bor ?_)
local macro_rules | `(tactic| walk_at "stA") => `(tactic| with_reducible first | refine wp_perm ?_ | refine wp_star ?_)
local macro_rules | `(tactic| walk_at "stR") => `(tactic| first
  | with_reducible refine wp_mod (by omega) ?_
  | with_reducible refine wp_fdiv (by omega) ?_
  | with_reducible refine wp_mul (by omega) ?_
  | (with_reducible refine wp_val isi_T ?_; try dsimp only)
  | (with_reducible refine wp_val sl1 ?_; try dsimp only)
  | (with_reducible refine wp_val ix0 ?_; try dsimp only)
  | (with_reducible refine wp_val ix0L ?_; try dsimp only)
  | (with_reducible refine wp_val isi_F ?_; try dsimp only)
  | (refine wp_val rfl ?_; try dsimp only [List.set_cons_zero, List.set_cons_succ, wipeR, List.length_nil, List.nil_append])
  | (refine ⟨_, rfl, ?_⟩; try dsimp only)
  | (refine ⟨Nat.le_of_ble_eq_true rfl, ?_⟩; try dsimp only [List.set_cons_zero, List.set_cons_succ, wipeR, List.length_nil, List.nil_append])
  | refine ⟨fun _ => ?_, fun h => absurd h (by decide)⟩
  | refine ⟨fun h => absurd h (by decide), fun _ => ?_⟩
  | refine ⟨(rfl : isDct _ = true), ?_⟩
  | (refine ⟨nd0, ?_⟩; try dsimp only [List.set_cons_zero, List.set_cons_succ, wipeR, List.length_nil, List.nil_append])
  | (refine ⟨nd1 _, ?_⟩; try dsimp only [List.set_cons_zero, List.set_cons_succ, wipeR, List.length_nil, List.nil_append])
  | (refine ⟨nd01, ?_⟩; try dsimp only [List.set_cons_zero, List.set_cons_succ, wipeR, List.length_nil, List.nil_append])
  | (refine ⟨by decide, ?_⟩; try dsimp only [List.set_cons_zero, List.set_cons_succ, wipeR, List.length_nil, List.nil_append]))
local macro_rules | `(tactic| walk_at "st2") => `(tactic| first | (with_reducible refine ty_E ?_; walk_at "stE") | (with_reducible refine ty_S ?_; walk_at "stS") | (with_reducible refine ty_F ?_; walk_at "stF") | (with_reducible refine ty_I ?_; walk_at "stI") | (with_reducible refine ty_B ?_; walk_at "stB") | (with_reducible refine ty_A ?_; walk_at "stA") | walk_at "stR")
local macro_rules | `(tactic| walk_at "st") => `(tactic| first
  | ((with_reducible first | refine lf_var ?_ | refine lf_view ?_ | refine lf_sc ?_ | refine lf_anil ?_ | refine lf_views ?_ | refine lf_pre ?_ | refine lf_fin ?_ | refine lf_putb ?_ | refine lf_tod ?_ | refine lf_nx ?_ | refine lf_gn ?_ | refine lf_bys ?_); refine wp_val rfl ?_; try dsimp only [List.set_cons_zero, List.set_cons_succ, wipeR, List.length_nil, List.nil_append])
  | (with_reducible first | refine wp_acons ?_ | refine wp_op ?_ | refine wp_fz ?_ | refine wp_set ?_ | refine wp_seq ?_ | refine wp_call ?_ | refine wp_n ?_ | refine wp_bof ?_)
  | walk_at "st2")
def keysAt (i : Nat) (r : List Sl) (m : List Cell) : Out (List D × List Cell) := do
  let (s, _) ← sVar i r m
  let (d, m1) ← toD s m
  match d with
  | .dct ks => .ok (ks.map fun kv => kD kv.1, m1)
  | _ => .bad
def fLock (i : Nat) (f : SF) : SF := fun r m => do
  let (_, m1) ← keysAt i r m
  f r m1
def sLock (i : Nat) (f : SS) : SS := fun r m => do
  let (_, m1) ← keysAt i r m
  f r m1
section
variable {cl : Cl} {X : Cx}
theorem RepK.len {T : Tab} {F : Hp} : ∀ {ks : List (Key × D)} {kvs : List (Key × V)}, RepK T F ks kvs → kvs.length = ks.length
  | [], _, h => by cases h; rfl
  | (j, d) :: ks, _, h => by
    obtain ⟨v, r, rfl, z, t⟩ := h
    simp [RepK.len t]
/-! ### while -/
end
end Nv
set_option Elab.async false
set_option linter.all false
set_option maxRecDepth 100000
set_option maxHeartbeats 4000000
namespace Nv
open PySem PySem.Spec PyProof.Rows L2
/-! ### a module's constants -/
def ConG (K : PySem.W.Frag) (mg : Str → Option Value) (x : Str) (d : D) : Prop := ∃ u v, mg x = some u ∧ RelV v u ∧ ∀ (cl : Cl) (F : Hp), Rep ⟨K, cl⟩ F d v
structure ConAt (K : PySem.W.Frag) (x : Str) (d : D) : Prop where
  ex : ∃ u v, PySem.W.nsIn K mainGlobals x = some (some u) ∧ RelV v u ∧ ∀ (cl : Cl) (F : Hp), Rep ⟨K, cl⟩ F d v
theorem ConAt.con {K : PySem.W.Frag} {x : Str} {d : D} {h : Heap} {mg : Str → Option Value} (C : ConAt K x d) (X : K.In h) (G : h.Ns mainGlobals mg) : ConG K mg x d := by
  obtain ⟨u, v, a, b, c⟩ := C.ex
  exact ⟨u, v, PySem.W.mg_of X G a, b, c⟩
theorem conS {K : PySem.W.Frag} {x s : Str} {t : Tok} (a : PySem.W.nsIn K mainGlobals x = some (some (.str s t))) : ConAt K x (.str s) := ⟨_, .str s, a, ⟨t, rfl⟩, fun _ _ => rfl⟩
theorem conI {K : PySem.W.Frag} {x : Str} {i : Int} {t : Tok} (a : PySem.W.nsIn K mainGlobals x = some (some (.int i t))) : ConAt K x (.int i) := ⟨_, .int i, a, ⟨t, rfl⟩, fun _ _ => rfl⟩
theorem conT2 {K : PySem.W.Frag} {x s1 s2 : Str} {p : Addr} {t1 t2 : Tok} {od : Option Addr} {n : Nat} {sl : Array (Option Value)} (a : PySem.W.nsIn K mainGlobals x = some (some (.ref p)))
    (l : K.lookup p = some ⟨.type "tuple", od, .seq #[.str s1 t1, .str s2 t2] n, sl⟩) : ConAt K x (.tup [.str s1, .str s2]) :=
  ⟨_, .ref p, a, rfl, fun _ _ => by
    simp only [Rep]
    exact ⟨p, [.str s1, .str s2], rfl, .inr ⟨_, _, _, l, rfl, rfl, by show 2 ≤ sizeLine; decide, .cons ⟨t1, rfl⟩ (.cons ⟨t2, rfl⟩ .nil)⟩, by simp [Reps, Rep]⟩⟩
section
variable {cl : Cl} {X : Cx}
theorem de_con {x : Str} {d : D} {pos : Pos} (hg : Gl X x) (h : ConG X.K X.mg x d) (hd : (x == ("__debug__" : Str)) = false := by decide) : DE cl X (.Name x pos) (sC d) := by
  obtain ⟨u, v, a, b, c⟩ := h
  exact de_glob hg a b (c cl) hd
/-! ### a op b op c -/
def sChain (o1 o2 : D → D → Out D) (fa fb fc : SE) : SE := fun r m => do
  let (x, m1) ← fa r m
  let (y, m2) ← fb r m1
  let dx ← view m2 x
  let dy ← view m2 y
  let d ← o1 dx dy
  match d with
  | .bl true => do
    let (z, m3) ← fc r m2
    let dy' ← view m3 y
    let dz ← view m3 z
    let e ← o2 dy' dz
    .ok (.val e, m3)
  | .bl false => .ok (.val (.bl false), m2)
  | _ => .bad
theorem chain_val {a b c : Expr} {rr rr' : R2} {o o' : D → D → Out D} {fa fb fc : SE} {t u w : TE} (ho : OpD ⟨X.K, cl⟩ rr o) (ho' : OpD ⟨X.K, cl⟩ rr' o')
    (h2 : ∀ W σ H r m, Rl ⟨X.K, cl⟩ W σ H r m → ∀ s m', fa r m = .ok (s, m') → ∀ Q : VK, (∀ v W' H', Stp W H W' H' → Rl ⟨X.K, cl⟩ W' σ H' r m' → SlR ⟨X.K, cl⟩ W' s v → Q v H') → t σ H Q)
    (g2 : ∀ W σ H r m, Rl ⟨X.K, cl⟩ W σ H r m → ∀ s m', fb r m = .ok (s, m') → ∀ Q : VK, (∀ v W' H', Stp W H W' H' → Rl ⟨X.K, cl⟩ W' σ H' r m' → SlR ⟨X.K, cl⟩ W' s v → Q v H') → u σ H Q)
    (k2 : ∀ W σ H r m, Rl ⟨X.K, cl⟩ W σ H r m → ∀ s m', fc r m = .ok (s, m') → ∀ Q : VK, (∀ v W' H', Stp W H W' H' → Rl ⟨X.K, cl⟩ W' σ H' r m' → SlR ⟨X.K, cl⟩ W' s v → Q v H') → w σ H Q) :
    ∀ W σ H r m, Rl ⟨X.K, cl⟩ W σ H r m → ∀ s m', sChain o o' fa fb fc r m = .ok (s, m') → ∀ Q : VK, (∀ v W' H', Stp W H W' H' → Rl ⟨X.K, cl⟩ W' σ H' r m' → SlR ⟨X.K, cl⟩ W' s v → Q v H') → tChain rr rr' t u w σ H Q := by
  intro W σ H r m R s m' e Q k
  obtain ⟨⟨x, m1⟩, e1, e⟩ := bind_ok e
  obtain ⟨⟨y, m2⟩, e2, e⟩ := bind_ok e
  obtain ⟨dx, e3, e⟩ := bind_ok e
  obtain ⟨dy, e4, e⟩ := bind_ok e
  obtain ⟨d, e5, e⟩ := bind_ok e
  refine h2 W σ H r m R x m1 e1 _ fun v W1 H1 w1 R1 z1 => ?_
  refine g2 W1 σ H1 r m1 R1 y m2 e2 _ fun v2 W2 H2 w2 R2 z2 => ?_
  cases d with
  | bl bb =>
    refine ho W2.F H2 v v2 dx dy (.bl bb) R2.le (R2.view (z1.mono w2.w) e3) (R2.view z2 e4) e5 _ (fun z hz => ?_) fun p o _ _ hz => nomatch hz
    have hz : z = .bl bb := hz
    subst hz
    refine ⟨bb, rfl, ?_⟩
    cases bb with
    | false =>
      rw [if_neg (by decide)]
      cases e
      exact k _ W2 H2 (w1.trans w2) R2 rfl
    | true =>
      rw [if_pos rfl]
      obtain ⟨⟨z, m3⟩, e6, e⟩ := bind_ok e
      obtain ⟨dy', e7, e⟩ := bind_ok e
      obtain ⟨dz, e8, e⟩ := bind_ok e
      obtain ⟨dd, e9, e⟩ := bind_ok e
      cases e
      refine k2 W2 σ H2 r m2 R2 z _ e6 _ fun v3 W3 H3 w3 R3 z3 => ?_
      have ww := (w1.trans w2).trans w3
      refine ho' W3.F H3 v2 v3 dy' dz dd R3.le (R3.view (z2.mono w3.w) e7) (R3.view z3 e8) e9 Q (fun z hz => k z W3 H3 ww R3 hz) fun p o hp _ hz => ?_
      obtain ⟨R4, w4⟩ := R3.newFz (o := o) hp
      exact k _ _ _ (ww.trans w4) R4 hz
  | _ => cases e
theorem dt_chain {a b c : Expr} {op op' : CmpOp} {rr rr' : R2} {o o' : D → D → Out D} {fa fb fc : SE} {pos : Pos} (hr : OpR X (compareOp op) rr) (ho : OpD ⟨X.K, cl⟩ rr o) (hr' : OpR X (compareOp op') rr') (ho' : OpD ⟨X.K, cl⟩ rr' o')
    (ha : DE cl X a fa) (hb : DE cl X b fb) (hc : DE cl X c fc) (hm : lastMarks [op, op'] [b, c] = false := by with_unfolding_all rfl) : DT cl X (.Compare a [op, op'] [b, c] pos) (bOf (sChain o o' fa fb fc)) := by
  obtain ⟨t, h1, h2⟩ := ha.ex
  obtain ⟨u, g1, g2⟩ := hb.ex
  obtain ⟨w, k1, k2⟩ := hc.ex
  refine ⟨_, pt_chain hr hr' h1 g1 k1 hm, fun W σ H r m R bb m' e Q k => ?_⟩
  refine chain_val (a := a) (b := b) (c := c) ho ho' h2 g2 k2 W σ H r m R _ m' (bOf_ok e) _ fun v W1 H1 w1 R1 z1 => ?_
  exact ⟨bb, z1, k W1 H1 w1 R1⟩
/-! ### more of texts, numbers -/
def dCount (d : D) (ds : List D) : Out D := match d, ds with
  | .str a, [.str b] => .ok (.int (Txt.count a b))
  | _, _ => .bad
theorem md_count : MtD ⟨X.K, cl⟩ "str" (fun x xs H Q => ∃ a b, x = .str a ∧ xs = [.str b] ∧ Q (.int (Txt.count a b)) H) dCount := by
  intro F H x xs dx ds d le hx hs e Q k1 k2
  unfold dCount at e
  split at e
  · cases e
    obtain ⟨v, rfl, z⟩ := hs.one
    cases z.str
    cases hx.str
    exact ⟨_, _, rfl, rfl, k1 _ rfl⟩
  · cases e
end
end Nv
set_option Elab.async false
set_option linter.all false
set_option maxRecDepth 100000
set_option maxHeartbeats 4000000
namespace Nv
open PySem L2
/-! ### what a run gives -/
def wp {A : Type} (x : Out A) (Q : A → Prop) : Prop := ∃ a, x = .ok a ∧ Q a
theorem wp_ok {A : Type} {a : A} {Q : A → Prop} (h : Q a) : wp (.ok a) Q := ⟨a, rfl, h⟩
theorem wp_val {A : Type} {x : Out A} {a : A} {Q : A → Prop} (e : x = .ok a) (h : Q a) : wp x Q := ⟨a, e, h⟩
theorem lf_var {i : Nat} {r : List Sl} {m : List Cell} {Q : Sl × List Cell → Prop} (h : wp (sVar i r m) Q) : wp (sVar i r m) Q := h
theorem lf_view {s : Sl} {m : List Cell} {Q : D → Prop} (h : wp (view m s) Q) : wp (view m s) Q := h
theorem lf_sc {d : D} {r : List Sl} {m : List Cell} {Q : Sl × List Cell → Prop} (h : wp (sC d r m) Q) : wp (sC d r m) Q := h
theorem lf_anil {r : List Sl} {m : List Cell} {Q : List Sl × List Cell → Prop} (h : wp (aNil r m) Q) : wp (aNil r m) Q := h
theorem lf_views {ss : List Sl} {m : List Cell} {Q : List D → Prop} (h : wp (views m ss) Q) : wp (views m ss) Q := h
theorem lf_pre {fl : List Bool} {ss : List Sl} {m : List Cell} {Q : List Pre × List Cell → Prop} (h : wp (pre fl ss m) Q) : wp (pre fl ss m) Q := h
theorem lf_fin {ps : List Pre} {m : List Cell} {Q : List Arg → Prop} (h : wp (fin m ps) Q) : wp (fin m ps) Q := h
theorem lf_putb {rs : List Nat} {ds : List D} {m : List Cell} {Q : List Cell → Prop} (h : wp (putBack rs ds m) Q) : wp (putBack rs ds m) Q := h
theorem lf_tod {s : Sl} {m : List Cell} {Q : D × List Cell → Prop} (h : wp (toD s m) Q) : wp (toD s m) Q := h
theorem lf_nx {r : List Sl} {m : List Cell} {Q : Fl × List Sl × List Cell → Prop} (h : wp (sNx r m) Q) : wp (sNx r m) Q := h
theorem lf_gn {i : Nat} {s : Sl} {r : List Sl} {m : List Cell} {Q : List Sl → Prop} (h : wp (gN i s r m) Q) : wp (gN i s r m) Q := h
theorem lf_bys {r : List Sl} {m : List Cell} {Q : Bool × List Cell → Prop} (h : wp (bYes r m) Q) : wp (bYes r m) Q := h
theorem ty_E {x : Out (Sl × List Cell)} {Q : Sl × List Cell → Prop} (h : wp x Q) : wp x Q := h
theorem ty_S {x : Out (Fl × List Sl × List Cell)} {Q : Fl × List Sl × List Cell → Prop} (h : wp x Q) : wp x Q := h
theorem ty_F {x : Out (D × List Cell)} {Q : D × List Cell → Prop} (h : wp x Q) : wp x Q := h
theorem ty_I {x : Out (List D × List Cell)} {Q : List D × List Cell → Prop} (h : wp x Q) : wp x Q := h
theorem ty_B {x : Out (Bool × List Cell)} {Q : Bool × List Cell → Prop} (h : wp x Q) : wp x Q := h
theorem ty_A {x : Out (List Sl × List Cell)} {Q : List Sl × List Cell → Prop} (h : wp x Q) : wp x Q := h
theorem wp_bind {A B : Type} {x : Out A} {f : A → Out B} {Q : B → Prop} (h : wp x fun a => wp (f a) Q) : wp (x >>= f) Q := by
  obtain ⟨a, rfl, b, e, q⟩ := h
  exact ⟨b, e, q⟩
theorem wp_mono {A : Type} {x : Out A} {Q Q' : A → Prop} (h : wp x Q) (k : ∀ a, Q a → Q' a) : wp x Q' := by
  obtain ⟨a, e, q⟩ := h
  exact ⟨a, e, k a q⟩
theorem wp_eq {A : Type} {x : Out A} {a : A} (h : wp x fun b => b = a) : x = .ok a := by
  obtain ⟨b, e, rfl⟩ := h
  exact e
theorem wp_fn {n : Nat} {body : SS} {as : List Arg} {Q : D × List D → Prop} (h : wp (body (slotsOf as 0 ++ List.replicate (n - as.length) .un) (cellsOf as)) fun q => wp (retOf q.1) fun d => wp (backs (cellsOf as).length q.2.2) fun ds => Q (d, ds)) : wp (fnOf n body as) Q := by
  refine wp_bind (wp_mono h fun q hq => ?_)
  exact wp_bind (wp_mono hq fun d hd => wp_bind (wp_mono hd fun ds hs => wp_ok hs))
section
variable {r : List Sl} {m : List Cell} {f g : SS} {Q : Fl × List Sl × List Cell → Prop}
theorem wp_seq (h : wp (f r m) fun q => match q.1 with
    | .nx => wp (g q.2.1 q.2.2) Q
    | _ => Q q) : wp (sSeq f g r m) Q := by
  obtain ⟨⟨fl, r1, m1⟩, e, q⟩ := h
  refine wp_bind (wp_val e ?_)
  cases fl with
  | nx => exact q
  | _ => exact wp_ok q
/-- straight on -/
theorem wp_seqn {r1 : List Sl} {m1 : List Cell} (e : f r m = .ok (.nx, r1, m1)) (h : wp (g r1 m1) Q) : wp (sSeq f g r m) Q := wp_seq (wp_val e h)
theorem wp_ifs {c : SB} (h : wp (c r m) fun q => (q.1 = true → wp (f r q.2) Q) ∧ (q.1 = false → wp (g r q.2) Q)) : wp (sIfS c f g r m) Q := by
  obtain ⟨⟨b, m1⟩, e, h1, h2⟩ := h
  refine wp_bind (wp_val e ?_)
  cases b with
  | true => exact h1 rfl
  | false => exact h2 rfl
theorem wp_set {i : Nat} {fe : SE} (h : wp (fe r m) fun q => Q (.nx, r.set i q.1, q.2)) : wp (sSet i fe r m) Q := by
  obtain ⟨⟨s, m1⟩, e, q⟩ := h
  exact wp_bind (wp_val e (wp_ok q))
theorem wp_ret {fe : SE} (h : wp (fe r m) fun q => wp (toD q.1 q.2) fun p => Q (.rt p.1, r, p.2)) : wp (sRet fe r m) Q := by
  obtain ⟨⟨s, m1⟩, e, ⟨d, m2⟩, e2, q⟩ := h
  exact wp_bind (wp_val e (wp_bind (wp_val e2 (wp_ok q))))
theorem wp_drop {fe : SE} (h : wp (fe r m) fun q => Q (.nx, r, q.2)) : wp (sDrop fe r m) Q := by
  obtain ⟨⟨s, m1⟩, e, q⟩ := h
  exact wp_bind (wp_val e (wp_ok q))
theorem wp_for {fi : SI} {gg : SG} {body : SS} (h : wp (fi r m) fun q => wp (forS gg body q.1 r q.2) Q) : wp (sFor fi gg body r m) Q := by
  obtain ⟨⟨ds, m1⟩, e, q⟩ := h
  exact wp_bind (wp_val e q)
/-- a loop by what holds between its turns -/
theorem wp_forS {gg : SG} {body : SS} (I : Nat → List Sl → List Cell → Prop) : ∀ (ds : List D) (k : Nat) (r : List Sl) (m : List Cell), I k r m →
    (∀ (i : Nat) (d : D) r m, ds[i]? = some d → I (k + i) r m → wp (gg (.val d) r m) fun r1 => wp (body r1 m) fun q => match q.1 with
      | .nx => I (k + i + 1) q.2.1 q.2.2
      | .ct => I (k + i + 1) q.2.1 q.2.2
      | .bk => Q (.nx, q.2.1, q.2.2)
      | .rt d => Q (.rt d, q.2.1, q.2.2)) → (∀ r m, I (k + ds.length) r m → Q (.nx, r, m)) → wp (forS gg body ds r m) Q
  | [], k, r, m, h0, _, hd => wp_ok (hd r m h0)
  | d :: ds, k, r, m, h0, hs, hd => by
    obtain ⟨r1, e1, ⟨fl, r2, m2⟩, e2, q⟩ := hs 0 d r m rfl h0
    refine wp_bind (wp_val e1 (wp_bind (wp_val e2 ?_)))
    have rest : I (k + 1) r2 m2 → wp (forS gg body ds r2 m2) Q := fun h1 =>
      wp_forS I ds (k + 1) r2 m2 h1 (fun i d r m e h => by
        have := hs (i + 1) d r m (by simpa using e) (by rw [show k + (i + 1) = k + 1 + i by omega]; exact h)
        rw [show k + (i + 1) = k + 1 + i by omega] at this; exact this) fun r m h => hd r m (by rw [show k + (d :: ds).length = k + 1 + ds.length by simp; omega]; exact h)
    cases fl with
    | nx => exact rest q
    | ct => exact rest q
    | bk => exact wp_ok q
    | rt d => exact wp_ok q
end
section
variable {r : List Sl} {m : List Cell}
theorem wp_op {op : D → D → Out D} {fa fb : SE} {Q : Sl × List Cell → Prop} (h : wp (fa r m) fun p => wp (fb r p.2) fun q => wp (view q.2 p.1) fun dx => wp (view q.2 q.1) fun dy => wp (op dx dy) fun d => Q (.val d, q.2)) : wp (sOp op fa fb r m) Q := by
  obtain ⟨⟨x, m1⟩, e1, ⟨y, m2⟩, e2, dx, e3, dy, e4, d, e5, q⟩ := h
  refine wp_bind (wp_val (a := (d, m2)) ?_ (wp_ok q))
  exact wp_eq (wp_bind (wp_val e1 (wp_bind (wp_val e2 (wp_bind (wp_val e3 (wp_bind (wp_val e4 (wp_bind (wp_val e5 (wp_ok rfl)))))))))))
theorem wp_fz {f : SF} {Q : Sl × List Cell → Prop} (h : wp (f r m) fun q => Q (.val q.1, q.2)) : wp (sFz f r m) Q := by
  obtain ⟨⟨d, m1⟩, e, q⟩ := h
  exact wp_bind (wp_val e (wp_ok q))
theorem wp_mu {f : SF} {Q : Sl × List Cell → Prop} (h : wp (f r m) fun q => Q (.ref q.2.length, q.2 ++ [⟨.own, q.1⟩])) : wp (sMu f r m) Q := by
  obtain ⟨⟨d, m1⟩, e, q⟩ := h
  exact wp_bind (wp_val e (wp_ok q))
theorem wp_n {op : List D → Out D} {f : SA} {Q : D × List Cell → Prop} (h : wp (f r m) fun q => wp (views q.2 q.1) fun ds => wp (op ds) fun d => Q (d, q.2)) : wp (sN op f r m) Q := by
  obtain ⟨⟨ss, m1⟩, e, ds, e2, d, e3, q⟩ := h
  exact wp_bind (wp_val e (wp_bind (wp_val e2 (wp_bind (wp_val e3 (wp_ok q))))))
theorem wp_acons {f : SE} {g : SA} {Q : List Sl × List Cell → Prop} (h : wp (f r m) fun p => wp (g r p.2) fun q => Q (p.1 :: q.1, q.2)) : wp (aCons f g r m) Q := by
  obtain ⟨⟨s, m1⟩, e, ⟨ss, m2⟩, e2, q⟩ := h
  exact wp_bind (wp_val e (wp_bind (wp_val e2 (wp_ok q))))
theorem wp_bof {f : SE} {Q : Bool × List Cell → Prop} (h : wp (f r m) fun q => ∃ b, q.1 = .val (.bl b) ∧ Q (b, q.2)) : wp (bOf f r m) Q := by
  obtain ⟨⟨s, m1⟩, e, b, rfl, q⟩ := h
  exact wp_bind (wp_val e (wp_ok q))
theorem wp_btru {f : SE} {Q : Bool × List Cell → Prop} (h : wp (f r m) fun q => wp (view q.2 q.1) fun d => wp (dTru d) fun b => Q (b, q.2)) : wp (bTru f r m) Q := by
  obtain ⟨⟨s, m1⟩, e, d, e2, b, e3, q⟩ := h
  exact wp_bind (wp_val e (wp_bind (wp_val e2 (wp_bind (wp_val e3 (wp_ok q))))))
theorem wp_bnot {f : SB} {Q : Bool × List Cell → Prop} (h : wp (f r m) fun q => Q (!q.1, q.2)) : wp (bNot f r m) Q := by
  obtain ⟨⟨b, m1⟩, e, q⟩ := h
  exact wp_bind (wp_val e (wp_ok q))
theorem wp_band {f g : SB} {Q : Bool × List Cell → Prop} (h : wp (f r m) fun q => (q.1 = true → wp (g r q.2) Q) ∧ (q.1 = false → Q (false, q.2))) : wp (bAnd f g r m) Q := by
  obtain ⟨⟨b, m1⟩, e, h1, h2⟩ := h
  refine wp_bind (wp_val e ?_)
  cases b with
  | true => exact h1 rfl
  | false => exact wp_ok (h2 rfl)
theorem wp_bor {f g : SB} {Q : Bool × List Cell → Prop} (h : wp (f r m) fun q => (q.1 = true → Q (true, q.2)) ∧ (q.1 = false → wp (g r q.2) Q)) : wp (bOr f g r m) Q := by
  obtain ⟨⟨b, m1⟩, e, h1, h2⟩ := h
  refine wp_bind (wp_val e ?_)
  cases b with
  | true => exact wp_ok (h1 rfl)
  | false => exact h2 rfl
theorem wp_sif {c : SB} {f g : SE} {Q : Sl × List Cell → Prop} (h : wp (c r m) fun q => (q.1 = true → wp (f r q.2) Q) ∧ (q.1 = false → wp (g r q.2) Q)) : wp (sIf c f g r m) Q := by
  obtain ⟨⟨b, m1⟩, e, h1, h2⟩ := h
  refine wp_bind (wp_val e ?_)
  cases b with
  | true => exact h1 rfl
  | false => exact h2 rfl
theorem wp_call {fl : List Bool} {g : Fn} {f : SA} {Q : Sl × List Cell → Prop} (h : wp (f r m) fun q => wp (pre fl q.1 q.2) fun p => wp (fin p.2 p.1) fun as => (refsOf p.1).Nodup ∧ wp (g as) fun x => wp (putBack (refsOf p.1) x.2 p.2) fun m3 => Q (.val x.1, m3)) : wp (sCall fl g f r m) Q := by
  obtain ⟨⟨ss, m1⟩, e1, ⟨ps, m2⟩, e2, as, e3, nd, ⟨d, ds⟩, e4, m3, e5, q⟩ := h
  refine wp_bind (wp_val e1 (wp_bind (wp_val e2 (wp_bind (wp_val e3 ?_)))))
  rw [if_pos nd]
  exact wp_bind (wp_val e4 (wp_bind (wp_val e5 (wp_ok q))))
theorem wp_callR {g : List D → Out D} {f : SA} {Q : Sl × List Cell → Prop} (h : wp (f r m) fun q => wp (toDs q.1 q.2) fun p => wp (g p.1) fun d => Q (.val d, p.2)) : wp (sCallR g f r m) Q := by
  obtain ⟨⟨ss, m1⟩, e1, ⟨ds, m2⟩, e2, d, e3, q⟩ := h
  exact wp_bind (wp_val e1 (wp_bind (wp_val e2 (wp_bind (wp_val e3 (wp_ok q))))))
theorem wp_lc {vs : List Nat} {f : SI} {g : SG} {ft : SB} {fe : SE} {Q : D × List Cell → Prop} (h : wp (f r m) fun q => wp (lcS g ft fe (wipeR r vs) q.1 [] q.2) fun p => Q (.lst p.1, p.2)) : wp (fLc vs f g ft fe r m) Q := by
  obtain ⟨⟨ds, m1⟩, e1, ⟨xs, m2⟩, e2, q⟩ := h
  exact wp_bind (wp_val e1 (wp_bind (wp_val e2 (wp_ok q))))
/-- a comprehension by what holds between its turns -/
theorem wp_lcS {g : SG} {ft : SB} {fe : SE} {Q : List D × List Cell → Prop} (I : Nat → List D → List Cell → Prop) : ∀ (ds : List D) (k : Nat) (acc : List D) (m : List Cell), I k acc m →
    (∀ (i : Nat) (d : D) acc m, ds[i]? = some d → I (k + i) acc m → wp (g (.val d) r m) fun r1 => wp (ft r1 m) fun b =>
      (b.1 = true → wp (fe r1 b.2) fun s => wp (toD s.1 s.2) fun x => acc.length < sizeLine ∧ I (k + i + 1) (acc ++ [x.1]) x.2) ∧ (b.1 = false → I (k + i + 1) acc b.2)) →
    (∀ acc m, I (k + ds.length) acc m → Q (acc, m)) → wp (lcS g ft fe r ds acc m) Q
  | [], k, acc, m, h0, _, hd => wp_ok (hd acc m h0)
  | d :: ds, k, acc, m, h0, hs, hd => by
    obtain ⟨r1, e1, ⟨b, m1⟩, e2, q1, q2⟩ := hs 0 d acc m rfl h0
    refine wp_bind (wp_val e1 (wp_bind (wp_val e2 ?_)))
    have rest : ∀ acc m, I (k + 1) acc m → wp (lcS g ft fe r ds acc m) Q := fun acc m h1 =>
      wp_lcS I ds (k + 1) acc m h1 (fun i d acc m e h => by
        have := hs (i + 1) d acc m (by simpa using e) (by rw [show k + (i + 1) = k + 1 + i by omega]; exact h)
        rw [show k + (i + 1) = k + 1 + i by omega] at this; exact this) fun acc m h => hd acc m (by rw [show k + (d :: ds).length = k + 1 + ds.length by simp; omega]; exact h)
    cases b with
    | false => exact rest acc m1 (q2 rfl)
    | true =>
      obtain ⟨⟨s, m2⟩, e3, ⟨x, m3⟩, e4, hz, h1⟩ := q1 rfl
      show wp (fe r1 m1 >>= _) Q
      refine wp_bind (wp_val e3 (wp_bind (wp_val e4 ?_)))
      show wp (if acc.length < sizeLine then _ else _) Q
      rw [if_pos hz]
      exact rest _ _ h1
end
end Nv
set_option Elab.async false
set_option linter.all false
set_option maxRecDepth 100000
set_option maxHeartbeats 4000000
namespace Nv
open PySem L2
/-! ### leaves -/
section
variable {Q : D → Prop}
theorem wp_mul {i j : Int} (h : -(2 ^ 64) < i ∧ i < 2 ^ 64 ∨ -(2 ^ 64) < j ∧ j < 2 ^ 64) (q : Q (.int (i * j))) : wp (dMul (.int i) (.int j)) Q :=
  wp_val (if_pos (decide_eq_true h)) q
theorem wp_mod {i j : Int} (h : 0 < j) (q : Q (.int (i % j))) : wp (dMod (.int i) (.int j)) Q := wp_val (if_pos (decide_eq_true h)) q
theorem wp_fdiv {i j : Int} (h : 0 < j ∧ j < 1073741824) (q : Q (.int (i / j))) : wp (dFdiv (.int i) (.int j)) Q := wp_val (if_pos (decide_eq_true h)) q
theorem wp_pow {i j : Int} (h : 0 ≤ j ∧ j ≤ 1000000 ∧ i.natAbs < 2 ^ 64) (q : Q (.int (i ^ j.toNat))) : wp (dPow (.int i) (.int j)) Q := wp_val (if_pos (decide_eq_true h)) q
theorem wp_addS {x y : Str} (h : x.length + y.length ≤ sizeLine) (q : Q (.str (x ++ y))) : wp (dAdd (.str x) (.str y)) Q := wp_val (if_pos h) q
theorem wp_addL {x y : List D} (h : x.length + y.length ≤ sizeLine) (q : Q (.lst (x ++ y))) : wp (dAdd (.lst x) (.lst y)) Q := wp_val (if_pos h) q
theorem wp_ixL {xs : List D} {i : Int} {x : D} (h : atI xs i = some x) (q : Q x) : wp (dIx (.lst xs) (.int i)) Q := wp_val (by simp only [dIx, h]) q
theorem wp_ixS {z : Str} {i : Int} {c : Nat} (hz : z.length ≤ sizeLine) (h : atI z.cps.toList i = some c) (q : Q (.str ⟨#[c]⟩)) : wp (dIx (.str z) (.int i)) Q := wp_val (by simp only [dIx, if_pos hz, h]) q
end
theorem atI_nn {A : Type} (xs : List A) {i : Int} (h0 : 0 ≤ i) (h : i < xs.length) : ∃ x, atI xs i = some x ∧ x ∈ xs := by
  obtain ⟨n, rfl⟩ := Int.eq_ofNat_of_zero_le h0
  have hn : n < xs.length := by omega
  refine ⟨xs[n], ?_, List.getElem_mem hn⟩
  unfold atI ixN
  simp [hn]
/-! ### what can be written and compared -/
def wt (d : D) : Nat := match d.py with
  | some p => p.weight
  | none => 0
def wts (ds : List D) : Nat := (ds.map fun d => wt d + 1).sum
structure NiceP (n : Nat) (p : PyData) : Prop where
  lay : p.canLay0 = true
  sho : p.showable = true
  lea : p.leavesShort 30 = true
  dep : p.depth ≤ n
def Nice (n : Nat) (d : D) : Prop := ∃ p, d.py = some p ∧ NiceP n p
def NiceL (n : Nat) (ds : List D) : Prop := ∀ d ∈ ds, Nice n d
theorem NiceL.all {n : Nat} : ∀ {ds : List D}, NiceL n ds → ∃ ps, pyAll ds = some ps ∧ PyData.canLayAll0 ps = true ∧ PyData.showableAll ps = true ∧ PyData.leavesShortAll 30 ps = true ∧ PyData.depthAll ps ≤ n ∧ PyData.weightAll ps = wts ds
  | [], _ => ⟨[], rfl, rfl, rfl, rfl, Nat.zero_le _, rfl⟩
  | d :: ds, h => by
    obtain ⟨p, e, hp⟩ := h d (List.mem_cons_self ..)
    obtain ⟨ps, e2, h1, h2, h3, h4, h5⟩ := NiceL.all (ds := ds) fun x hx => h x (List.mem_cons_of_mem _ hx)
    refine ⟨p :: ps, by simp only [pyAll, e, e2], ?_, ?_, ?_, ?_, ?_⟩
    · simp only [PyData.canLayAll0, hp.lay, h1, Bool.and_self]
    · simp only [PyData.showableAll, hp.sho, h2, Bool.and_self]
    · simp only [PyData.leavesShortAll, hp.lea, h3, Bool.and_self]
    · simp only [PyData.depthAll]; have := hp.dep; omega
    · simp only [PyData.weightAll, wts, List.map_cons, List.sum_cons, h5, wt, e]
theorem Nice.lst {n : Nat} {ds : List D} (h : NiceL n ds) : Nice (n + 1) (.lst ds) := by
  obtain ⟨ps, e, h1, h2, h3, h4, h5⟩ := h.all
  exact ⟨.list ps, by simp only [D.py, e, Option.map_some], by simp only [PyData.canLay0, h1], by simp only [PyData.showable, h2], by simp only [PyData.leavesShort, h3], by simp only [PyData.depth]; omega⟩
theorem Nice.tup {n : Nat} {ds : List D} (h : NiceL n ds) : Nice (n + 1) (.tup ds) := by
  obtain ⟨ps, e, h1, h2, h3, h4, h5⟩ := h.all
  exact ⟨.tuple ps, by simp only [D.py, e, Option.map_some], by simp only [PyData.canLay0, h1], by simp only [PyData.showable, h2], by simp only [PyData.leavesShort, h3], by simp only [PyData.depth]; omega⟩
theorem Nice.mono {n k : Nat} {d : D} (h : Nice n d) (hk : n ≤ k) : Nice k d := by
  obtain ⟨p, e, hp⟩ := h
  exact ⟨p, e, hp.lay, hp.sho, hp.lea, Nat.le_trans hp.dep hk⟩
theorem NiceL.mono {n k : Nat} {ds : List D} (h : NiceL n ds) (hk : n ≤ k) : NiceL k ds := fun d hd => (h d hd).mono hk
theorem NiceL.nil {n : Nat} : NiceL n [] := fun d h => nomatch h
theorem NiceL.cons {n : Nat} {d : D} {ds : List D} (h : Nice n d) (h' : NiceL n ds) : NiceL n (d :: ds) := fun x hx => by
  rcases List.mem_cons.mp hx with rfl | hx
  · exact h
  · exact h' x hx
theorem NiceL.append {n : Nat} {ds es : List D} (h : NiceL n ds) (h' : NiceL n es) : NiceL n (ds ++ es) := fun x hx => by
  rcases List.mem_append.mp hx with hx | hx
  · exact h x hx
  · exact h' x hx
theorem Nice.str {x : Str} (h : PyData.strOk x = true) : Nice 0 (.str x) := ⟨.str x, rfl, by simp only [PyData.canLay0, h], rfl, by
  simp only [PyData.leavesShort, List.all_eq_true, decide_eq_true_eq]
  intro c hc
  unfold PyData.strOk at h
  have := Array.all_eq_true_iff_forall_mem.mp h c (by simpa using hc)
  simp at this
  omega, Nat.le_refl _⟩
theorem Nice.non : Nice 0 .non := ⟨.none, rfl, rfl, rfl, rfl, Nat.le_refl _⟩
theorem Nice.bl {b : Bool} : Nice 0 (.bl b) := ⟨.bool b, rfl, rfl, rfl, rfl, Nat.le_refl _⟩
/-! ### the signs of a written text -/
theorem sok_iff {x : Str} : PyData.strOk x = true ↔ ∀ c ∈ x.cps.toList, c < 0x110000 := by
  unfold PyData.strOk
  rw [Array.all_eq_true_iff_forall_mem]
  simp
theorem sok_app {x y : Str} (h : PyData.strOk x = true) (h' : PyData.strOk y = true) : PyData.strOk (x ++ y) = true := by
  rw [sok_iff] at *
  intro c hc
  have : (x ++ y).cps.toList = x.cps.toList ++ y.cps.toList := by
    show (x.cps ++ y.cps).toList = _
    simp
  rw [this, List.mem_append] at hc
  exact hc.elim (h c) (h' c)
theorem sok_chars (s : String) : PyData.strOk (Str.ofString s) = true := by
  rw [sok_iff]
  intro c hc
  unfold Str.ofString at hc
  rw [cpsOfBytes_string] at hc
  simp at hc
  obtain ⟨a, _, rfl⟩ := hc
  have h := a.valid
  simp only [UInt32.isValidChar, Nat.isValidChar] at h
  show a.val.toNat < _
  omega
theorem sok_reprChar {q c : Nat} (hq : q < 0x110000) (hc : c < 0x110000) : ∀ e ∈ Builtin.Str.reprChar q c, e < 0x110000 := by
  have hx : ∀ w, ∀ e ∈ (List.replicate (w - ((Nat.toDigits 16 c).map Char.toNat).length) 48 ++ (Nat.toDigits 16 c).map Char.toNat), e < 0x110000 := by
    intro w e he
    rcases List.mem_append.mp he with he | he
    · rw [List.mem_replicate] at he; omega
    · simp at he
      obtain ⟨a, _, rfl⟩ := he
      have h := a.valid
      simp only [UInt32.isValidChar, Nat.isValidChar] at h
      show a.val.toNat < _
      omega
  intro e he
  unfold Builtin.Str.reprChar at he
  dsimp only at he
  repeat' split at he
  all_goals first
    | (simp at he; omega)
    | (rcases List.mem_append.mp he with he | he
       · simp at he; omega
       · exact hx _ e he)
theorem sok_fold {q : Nat} (hq : q < 0x110000) : ∀ (l : List Nat) (acc : Array Nat), (∀ c ∈ l, c < 0x110000) → (∀ c ∈ acc, c < 0x110000) → ∀ c ∈ l.foldl (fun out c => out ++ (Builtin.Str.reprChar q c).toArray) acc, c < 0x110000
  | [], acc, _, h => h
  | c :: l, acc, hl, h => by
    refine sok_fold hq l _ (fun d hd => hl d (List.mem_cons_of_mem _ hd)) fun e he => ?_
    rcases Array.mem_append.mp he with he | he
    · exact h e he
    · exact sok_reprChar hq (hl c (List.mem_cons_self ..)) e (by simpa using he)
theorem sok_quote (x : Str) : reprQuote x < 0x110000 := by
  unfold reprQuote
  split <;> omega
theorem sok_repr {x : Str} (h : PyData.strOk x = true) : PyData.strOk (reprText x) = true := by
  rw [sok_iff] at *
  intro c hc
  unfold reprText at hc
  rw [← Array.foldl_toList] at hc
  have hc : c ∈ (x.cps.toList.foldl (fun out c => out ++ (Builtin.Str.reprChar (reprQuote x) c).toArray) #[reprQuote x]).push (reprQuote x) := Array.mem_toList_iff.mp hc
  rcases Array.mem_push.mp hc with hc | rfl
  · refine sok_fold (sok_quote x) _ _ h (fun d hd => ?_) c hc
    simp at hd; subst hd; exact sok_quote x
  · exact sok_quote x
theorem sok_join {y : Str} (hy : PyData.strOk y = true) : ∀ {ts : List Str}, (∀ t ∈ ts, PyData.strOk t = true) → PyData.strOk (Str.join y ts) = true
  | [], _ => sok_iff.mpr fun c hc => by simp [Str.join, Str.empty] at hc
  | [x], h => h x (List.mem_cons_self ..)
  | x :: z :: r, h => by
    show PyData.strOk (x ++ y ++ Str.join y (z :: r)) = true
    exact sok_app (sok_app (h x (List.mem_cons_self ..)) hy) (sok_join hy fun t ht => h t (List.mem_cons_of_mem _ ht))
theorem shaped_str {x : Str} (h : PyData.strOk x = true) : SeqAt.shaped (.str x) = true := by
  simp only [SeqAt.shaped, PyData.canLay0, h, PyData.depth, Bool.true_and]
  exact decide_eq_true (by omega)
theorem eqv_str (x : Str) : PyData.eqv (.str x) (.str x) = true := by simp only [PyData.eqv, beq_self_eq_true]
end Nv
set_option Elab.async false
set_option linter.all false
set_option maxRecDepth 100000
set_option maxHeartbeats 4000000
namespace Nv
open PySem L2
/-! ### the pen -/
def b_draw : SS := sSeq (sIfS (bOf (sOp dGt (sOp dGetI (sVar 0) (sC (.str ("left" : Str)))) (sC (.int 0)))) (sSeq (sSet 5 (sOp dMod (sFz (sN dInt (aCons (sOp dGetI (sVar 0) (sC (.str ("left" : Str)))) aNil))) (sVar 1)))
    (sSeq (sPutD (sVar 0) (sC (.str ("left" : Str))) (sOp dFdiv (sFz (sN dInt (aCons (sOp dGetI (sVar 0) (sC (.str ("left" : Str)))) aNil))) (sVar 1)))
    (sRet (sVar 5)))) sNx)
    (sSeq (sSet 2 (sOp dGetI (sVar 0) (sC (.str ("at" : Str)))))
    (sSeq (sPutD (sVar 0) (sC (.str ("at" : Str))) (sOp dAdd (sVar 2) (sC (.int 1))))
    (sSeq (sSet 3 (sOp dAdd (sOp dMul (sC (.int 7411)) (sVar 2)) (sC (.int 389))))
    (sSeq (sIfS (bOf (sOp dNe (sOp dGetI (sVar 0) (sC (.str ("cells" : Str)))) (sFz (fLst aNil)))) (sSet 3 (sOp dIx (sOp dGetI (sVar 0) (sC (.str ("cells" : Str)))) (sOp dMod (sFz (sN dInt (aCons (sVar 2) aNil))) (sFz (sN dLen (aCons (sOp dGetI (sVar 0) (sC (.str ("cells" : Str)))) aNil)))))) sNx)
    (sSeq (sIfS (bAnd (bOf (sOp dLt (sVar 2) (sFz (sN dLen (aCons (sOp dGetI (sVar 0) (sC (.str ("cells" : Str)))) aNil))))) (bOf (sOp dGe (sFz (sN dAbs (aCons (sVar 3) aNil))) (sOp dPow (sC (.int 10)) (sC (.int 18)))))) (sSeq (sSet 6 (sOp dAdd (sOp dMul (sC (.int 2)) (sFz (sN dAbs (aCons (sVar 3) aNil)))) (sFz (sN dInt (aCons (sOp dLt (sVar 3) (sC (.int 0))) aNil)))))
    (sSeq (sPutD (sVar 0) (sC (.str ("left" : Str))) (sOp dFdiv (sFz (sN dInt (aCons (sVar 6) aNil))) (sVar 1)))
    (sRet (sOp dMod (sFz (sN dInt (aCons (sVar 6) aNil))) (sVar 1))))) sNx)
    (sSeq (sSet 4 (sOp dMod (sFz (sN dInt (aCons (sOp dPow (sOp dAdd (sOp dAdd (sOp dMod (sFz (sN dInt (aCons (sVar 3) aNil))) (sC (.int 2147483563))) (sOp dMul (sC (.int 52361)) (sVar 2))) (sC (.int 41))) (sC (.int 3))) aNil))) (sC (.int 2147483647))))
    (sSeq (sSet 4 (sOp dMod (sFz (sN dInt (aCons (sOp dPow (sOp dAdd (sOp dAdd (sOp dMul (sVar 4) (sOp dAdd (sOp dMul (sC (.int 2)) (sVar 2)) (sC (.int 9)))) (sOp dMul (sOp dMul (sC (.int 70001)) (sVar 2)) (sVar 2))) (sC (.int 17))) (sC (.int 3))) aNil))) (sC (.int 2147483587))))
    (sRet (sOp dMod (sFz (sN dInt (aCons (sOp dFdiv (sVar 4) (sC (.int 32))) aNil))) (sVar 1))))))))))
def b_draw2 : SS := sSeq (sIfS (bAnd (bOf (sOp dLt (sVar 2) (sFz (sN dLen (aCons (sOp dGetI (sVar 0) (sC (.str ("cells" : Str)))) aNil))))) (bOf (sOp dGe (sFz (sN dAbs (aCons (sVar 3) aNil))) (sOp dPow (sC (.int 10)) (sC (.int 18)))))) (sSeq (sSet 6 (sOp dAdd (sOp dMul (sC (.int 2)) (sFz (sN dAbs (aCons (sVar 3) aNil)))) (sFz (sN dInt (aCons (sOp dLt (sVar 3) (sC (.int 0))) aNil)))))
    (sSeq (sPutD (sVar 0) (sC (.str ("left" : Str))) (sOp dFdiv (sFz (sN dInt (aCons (sVar 6) aNil))) (sVar 1)))
    (sRet (sOp dMod (sFz (sN dInt (aCons (sVar 6) aNil))) (sVar 1))))) sNx)
    (sSeq (sSet 4 (sOp dMod (sFz (sN dInt (aCons (sOp dPow (sOp dAdd (sOp dAdd (sOp dMod (sFz (sN dInt (aCons (sVar 3) aNil))) (sC (.int 2147483563))) (sOp dMul (sC (.int 52361)) (sVar 2))) (sC (.int 41))) (sC (.int 3))) aNil))) (sC (.int 2147483647))))
    (sSeq (sSet 4 (sOp dMod (sFz (sN dInt (aCons (sOp dPow (sOp dAdd (sOp dAdd (sOp dMul (sVar 4) (sOp dAdd (sOp dMul (sC (.int 2)) (sVar 2)) (sC (.int 9)))) (sOp dMul (sOp dMul (sC (.int 70001)) (sVar 2)) (sVar 2))) (sC (.int 17))) (sC (.int 3))) aNil))) (sC (.int 2147483587))))
    (sRet (sOp dMod (sFz (sN dInt (aCons (sOp dFdiv (sVar 4) (sC (.int 32))) aNil))) (sVar 1)))))
def fDraw : Fn := fnOf 7 b_draw
def penK (cs : List Int) (a l : Int) : List (Key × D) := [(.inr "cells", .lst (cs.map .int)), (.inr "at", .int a), (.inr "left", .int l)]
abbrev pen (cs : List Int) (a l : Int) : D := .dct (penK cs a l)
theorem ge_cells (cs : List Int) (a l : Int) : dGetI (pen cs a l) (.str "cells") = .ok (.lst (cs.map .int)) := by rfl
theorem ge_at (cs : List Int) (a l : Int) : dGetI (pen cs a l) (.str "at") = .ok (.int a) := by kernel_rfl
theorem ge_left (cs : List Int) (a l : Int) : dGetI (pen cs a l) (.str "left") = .ok (.int l) := by kernel_rfl
theorem pu_at (cs : List Int) (a l x : Int) : putD (penK cs a l) (.inr "at") (.int x) = penK cs x l := by kernel_rfl
theorem pu_left (cs : List Int) (a l x : Int) : putD (penK cs a l) (.inr "left") (.int x) = penK cs a x := by kernel_rfl
theorem penK_len (cs : List Int) (a l : Int) : (penK cs a l).length = 3 := rfl
theorem py_ints : ∀ cs : List Int, pyAll (cs.map .int) = some (cs.map .int) ∧ PyData.canLayAll0 (cs.map .int) = true ∧ PyData.depthAll (cs.map .int) = 0
  | [] => ⟨rfl, rfl, rfl⟩
  | c :: cs => by
    obtain ⟨h1, h2, h3⟩ := py_ints cs
    exact ⟨by simp only [List.map_cons, pyAll, D.py, h1], by simp only [List.map_cons, PyData.canLayAll0, PyData.canLay0, h2, Bool.and_self], by simp only [List.map_cons, PyData.depthAll, PyData.depth, h3]; rfl⟩
theorem cells_ne (cs : List Int) : dNe (.lst (cs.map .int)) (.lst []) = .ok (.bl (!cs.isEmpty)) := by
  obtain ⟨h1, h2, h3⟩ := py_ints cs
  have e : dEqB (.lst (cs.map .int)) (.lst []) = .ok cs.isEmpty := by
    simp only [dEqB, D.py, h1, Option.map_some, pyAll]
    rw [if_pos]
    · cases cs <;> rfl
    · exact ⟨by simp only [SeqAt.shaped, PyData.canLay0, h2, PyData.depth, h3]; rfl, rfl⟩
  simp only [dNe, e, ok_bind]
theorem draw_pow {x a : Int} (ha : 0 ≤ a) (ha2 : a < 4000000) : (x % 2147483647 * (2 * a + 9) + 70001 * a * a + 17).natAbs < 2 ^ 64 := by
  have h1 := Int.emod_nonneg x (b := 2147483647) (by omega)
  have h2 := Int.emod_lt_of_pos x (b := 2147483647) (by omega)
  have h3 : x % 2147483647 * (2 * a + 9) ≤ 2147483647 * 8000009 := Int.mul_le_mul (by omega) (by omega) (by omega) (by omega)
  have h4 : 0 ≤ x % 2147483647 * (2 * a + 9) := Int.mul_nonneg h1 (by omega)
  have h5 : 70001 * a * a ≤ (70001 * 4000000) * 4000000 := Int.mul_le_mul (by omega) (by omega) (by omega) (by omega)
  have h6 : 0 ≤ 70001 * a * a := Int.mul_nonneg (by omega) ha
  omega
def PenOk (A : Int) (d : D) : Prop := ∃ cs a l, d = pen cs a l ∧ cs.length ≤ 63 ∧ 0 ≤ a ∧ a ≤ A ∧ 0 ≤ l
theorem wp_put {r : List Sl} {m : List Cell} {fo fi fe : SE} {Q : Fl × List Sl × List Cell → Prop} (h : wp (fe r m) fun q => wp (toD q.1 q.2) fun p => wp (fo r p.2) fun o => wp (fi r o.2) fun i => wp (view i.2 i.1) fun dk => wp (cellD i.2 o.1) fun c =>
    ∃ kk, keyOf dk = some kk ∧ c.2.2.length < sizeLine ∧ Q (.nx, r, i.2.set c.1 ⟨c.2.1, .dct (putD c.2.2 kk p.1)⟩)) : wp (sPutD fo fi fe r m) Q := by
  obtain ⟨⟨s, m1⟩, e1, ⟨x, m2⟩, e2, ⟨o, m3⟩, e3, ⟨i, m4⟩, e4, dk, e5, ⟨j, k, ks⟩, e6, kk, e7, hz, q⟩ := h
  refine wp_bind (wp_val e1 (wp_bind (wp_val e2 (wp_bind (wp_val e3 (wp_bind (wp_val e4 (wp_bind (wp_val e5 (wp_bind (wp_val e6 ?_)))))))))))
  simp only [e7]
  rw [if_pos hz]
  exact wp_ok q
local macro_rules | `(tactic| walk_at "stE") => `(tactic| with_reducible first | refine wp_mu ?_ | refine wp_sif ?_)
local macro_rules | `(tactic| walk_at "stS") => `(tactic| with_reducible first | refine wp_ret ?_ | refine wp_drop ?_ | refine wp_ifs ?_ | refine wp_put ?_)
local macro_rules | `(tactic| walk_at "stB") => `(tactic| with_reducible first | refine wp_btru ?_ | refine wp_bnot ?_ | refine wp_band ?_ | refine wp_bor ?_)
local macro_rules | `(tactic| walk_at "stR") => `(tactic| first
  | (with_reducible refine wp_val (ge_left ..) ?_; try dsimp only)
  | (with_reducible refine wp_val (ge_at ..) ?_; try dsimp only)
  | (with_reducible refine wp_val (ge_cells ..) ?_; try dsimp only)
  | with_reducible refine wp_mod (by first | assumption | omega) ?_
  | with_reducible refine wp_fdiv (by omega) ?_
  | with_reducible refine wp_mul (by omega) ?_
  | with_reducible refine wp_pow (by omega) ?_
  | (refine wp_val rfl ?_; try dsimp only [List.set_cons_zero, List.set_cons_succ])
  | (refine ⟨_, rfl, ?_⟩; try dsimp only))
local macro_rules | `(tactic| walk_at "st2") => `(tactic| first | (with_reducible refine ty_E ?_; walk_at "stE") | (with_reducible refine ty_S ?_; walk_at "stS") | (with_reducible refine ty_B ?_; walk_at "stB") | walk_at "stR")
local macro_rules | `(tactic| walk_at "st") => `(tactic| first
  | ((with_reducible first | refine lf_var ?_ | refine lf_view ?_ | refine lf_sc ?_ | refine lf_anil ?_ | refine lf_views ?_ | refine lf_pre ?_ | refine lf_fin ?_ | refine lf_putb ?_ | refine lf_tod ?_ | refine lf_nx ?_ | refine lf_gn ?_ | refine lf_bys ?_); refine wp_val rfl ?_; try dsimp only [List.set_cons_zero, List.set_cons_succ])
  | (with_reducible first | refine wp_acons ?_ | refine wp_op ?_ | refine wp_fz ?_ | refine wp_set ?_ | refine wp_seq ?_ | refine wp_call ?_ | refine wp_n ?_ | refine wp_bof ?_)
  | walk_at "st2")
theorem draw_ok {A n : Int} {d : D} (h : PenOk A d) (hA : A < 4000000) (hn : 0 < n) (hn2 : n < 1073741824) : wp (fDraw [.b d, .v (.int n)]) fun x => ∃ k d', x = (.int k, [d']) ∧ 0 ≤ k ∧ k < n ∧ PenOk (A + 1) d' := by
  obtain ⟨cs, a, l, rfl, hc, ha, haA, hl⟩ := h
  refine wp_fn ?_
  show wp (b_draw [.ref 0, .val (.int n), .un, .un, .un, .un, .un] [⟨.bor, pen cs a l⟩]) _
  unfold b_draw
  repeat walk_at "st"
  refine ⟨fun h => ?_, fun h => ?_⟩
  · have h := of_decide_eq_true h
    repeat walk_at "st"
    refine ⟨by rw [penK_len]; decide, ?_⟩
    rw [pu_left]
    repeat walk_at "st"
    exact ⟨_, _, rfl, Int.emod_nonneg _ (by omega), Int.emod_lt_of_pos _ hn, cs, a, l / n, rfl, hc, ha, by omega, Int.ediv_nonneg hl (by omega)⟩
  · have h := of_decide_eq_false h
    repeat walk_at "st"
    refine ⟨by rw [penK_len]; decide, ?_⟩
    rw [pu_at]
    repeat walk_at "st"
    refine wp_val (cells_ne cs) ?_
    try dsimp only
    refine ⟨_, rfl, ?_⟩
    try dsimp only
    have hrest : ∀ c : Int, wp (b_draw2 [.ref 0, .val (.int n), .val (.int a), .val (.int c), .un, .un, .un] [⟨.bor, pen cs (a + 1) l⟩]) fun q => wp (retOf q.1) fun d => wp (backs 1 q.2.2) fun ds => ∃ k d', (d, ds) = (.int k, [d']) ∧ 0 ≤ k ∧ k < n ∧ PenOk (A + 1) d' := by
      intro c
      unfold b_draw2
      refine wp_seq ?_
      refine wp_ifs ?_
      refine wp_mono (Q := fun q => q.2 = [⟨.bor, pen cs (a + 1) l⟩]) ?_ ?_
      · repeat walk_at "st"
        refine ⟨fun hz => ?_, fun hz => rfl⟩
        repeat walk_at "st"
      · rintro ⟨b, m⟩ rfl
        refine ⟨fun hb => ?_, fun hb => ?_⟩
        · repeat walk_at "st"
          refine ⟨by rw [penK_len]; decide, ?_⟩
          rw [pu_left]
          repeat walk_at "st"
          refine ⟨_, _, rfl, Int.emod_nonneg _ (by omega), Int.emod_lt_of_pos _ hn, cs, a + 1, _, rfl, hc, by omega, by omega, Int.ediv_nonneg ?_ (by omega)⟩
          split <;> split <;> omega
        · refine wp_val rfl ?_
          dsimp only
          have hc1 := Int.emod_nonneg c (b := 2147483563) (by omega)
          have hc2 := Int.emod_lt_of_pos c (b := 2147483563) (by omega)
          repeat walk_at "st"
          refine wp_pow ⟨by omega, by omega, draw_pow ha (by omega)⟩ ?_
          repeat walk_at "st"
          exact ⟨_, _, rfl, Int.emod_nonneg _ (by omega), Int.emod_lt_of_pos _ hn, cs, a + 1, l, rfl, hc, by omega, by omega, hl⟩
    refine ⟨fun hne => ?_, fun hne => ?_⟩
    · have hp : 0 < (cs.length : Int) := by cases cs with
        | nil => cases hne
        | cons => simp
      have hlm : (cs.map D.int).length = cs.length := List.length_map ..
      repeat walk_at "st"
      have hm1 := Int.emod_nonneg a (b := (cs.map D.int).length) (by omega)
      have hm2 := Int.emod_lt_of_pos a (b := (cs.map D.int).length) (by omega)
      obtain ⟨x, e, hx⟩ := atI_nn (cs.map D.int) hm1 hm2
      obtain ⟨c, _, rfl⟩ := List.mem_map.mp hx
      refine wp_ixL e ?_
      try dsimp only [List.set_cons_zero, List.set_cons_succ]
      exact hrest _
    · refine wp_val rfl ?_
      exact hrest _
end Nv
set_option Elab.async false
set_option linter.all false
set_option maxRecDepth 100000
set_option maxHeartbeats 4000000
namespace Nv
open PySem L2
/-! ### more rules -/
section
variable {r : List Sl} {m : List Cell}
theorem wp_tup {f : SA} {Q : Sl × List Cell → Prop} (h : wp (f r m) fun q => wp (toDs q.1 q.2) fun p => p.1.length ≤ sizeLine ∧ Q (.val (.tup p.1), p.2)) : wp (sTup f r m) Q := by
  obtain ⟨⟨s, m1⟩, e1, ⟨ds, m2⟩, e2, hz, q⟩ := h
  refine wp_bind (wp_val e1 (wp_bind (wp_val e2 ?_)))
  show wp (if ds.length ≤ sizeLine then _ else _) Q
  rw [if_pos hz]
  exact wp_ok q
theorem wp_lst {f : SA} {Q : D × List Cell → Prop} (h : wp (f r m) fun q => wp (toDs q.1 q.2) fun p => p.1.length ≤ sizeLine ∧ Q (.lst p.1, p.2)) : wp (fLst f r m) Q := by
  obtain ⟨⟨s, m1⟩, e1, ⟨ds, m2⟩, e2, hz, q⟩ := h
  refine wp_bind (wp_val e1 (wp_bind (wp_val e2 ?_)))
  show wp (if ds.length ≤ sizeLine then _ else _) Q
  rw [if_pos hz]
  exact wp_ok q
theorem wp_isi {Ty : String} {f : SE} {Q : Sl × List Cell → Prop} (h : wp (f r m) fun q => wp (view q.2 q.1) fun d => wp (dIsi Ty d) fun b => Q (.val b, q.2)) : wp (sIsi Ty f r m) Q := by
  obtain ⟨⟨s, m1⟩, e1, d, e2, b, e3, q⟩ := h
  exact wp_bind (wp_val e1 (wp_bind (wp_val e2 (wp_bind (wp_val e3 (wp_ok q))))))
theorem wp_app {fo fe : SE} {Q : Sl × List Cell → Prop} (h : wp (fo r m) fun o => wp (cellL o.2 o.1) fun _ => wp (fe r o.2) fun s => wp (toD s.1 s.2) fun x => wp (cellL x.2 o.1) fun c => c.2.2.length < sizeLine ∧ Q (.val .non, x.2.set c.1 ⟨c.2.1, .lst (c.2.2 ++ [x.1])⟩)) : wp (sAppend fo fe r m) Q := by
  obtain ⟨⟨o, m1⟩, e1, c0, e2, ⟨s, m2⟩, e3, ⟨x, m3⟩, e4, ⟨j, k, xs⟩, e5, hz, q⟩ := h
  refine wp_bind (wp_val e1 (wp_bind (wp_val e2 (wp_bind (wp_val e3 (wp_bind (wp_val e4 (wp_bind (wp_val e5 ?_)))))))))
  show wp (if xs.length < sizeLine then _ else _) Q
  rw [if_pos hz]
  exact wp_ok q
theorem wp_ext {fo fe : SE} {Q : Sl × List Cell → Prop} (h : wp (fo r m) fun o => wp (cellL o.2 o.1) fun _ => wp (fe r o.2) fun s => wp (view s.2 s.1) fun d => wp (cellL s.2 o.1) fun c => ∃ ys, d = .lst ys ∧ c.2.2.length + ys.length ≤ sizeLine ∧ Q (.val .non, s.2.set c.1 ⟨c.2.1, .lst (c.2.2 ++ ys)⟩)) : wp (sExtend fo fe r m) Q := by
  obtain ⟨⟨o, m1⟩, e1, c0, e2, ⟨s, m2⟩, e3, d, e4, ⟨j, k, xs⟩, e5, ys, rfl, hz, q⟩ := h
  refine wp_bind (wp_val e1 (wp_bind (wp_val e2 (wp_bind (wp_val e3 (wp_bind (wp_val e4 (wp_bind (wp_val e5 ?_)))))))))
  show wp (if xs.length + ys.length ≤ sizeLine then _ else _) Q
  rw [if_pos hz]
  exact wp_ok q
theorem wp_sl {f : SE} {fl fh : SO} {Q : Sl × List Cell → Prop} (h : wp (f r m) fun s => wp (fl r s.2) fun lo => wp (fh r lo.2) fun hi => wp (view hi.2 s.1) fun d => wp (dSl d lo.1 hi.1) fun x => Q (.val x, hi.2)) : wp (sSl f fl fh r m) Q := by
  obtain ⟨⟨s, m1⟩, e1, ⟨lo, m2⟩, e2, ⟨hi, m3⟩, e3, d, e4, x, e5, q⟩ := h
  exact wp_bind (wp_val e1 (wp_bind (wp_val e2 (wp_bind (wp_val e3 (wp_bind (wp_val e4 (wp_bind (wp_val e5 (wp_ok q))))))))))
theorem wp_iof {f : SE} {Q : List D × List Cell → Prop} (h : wp (f r m) fun s => wp (toD s.1 s.2) fun d => wp (items d.1) fun ds => Q (ds, d.2)) : wp (iOf f r m) Q := by
  obtain ⟨⟨s, m1⟩, e1, ⟨d, m2⟩, e2, ds, e3, q⟩ := h
  exact wp_bind (wp_val e1 (wp_bind (wp_val e2 (wp_bind (wp_val e3 (wp_ok q))))))
theorem wp_range1 {f : SA} {Q : List D × List Cell → Prop} (h : wp (f r m) fun s => wp (views s.2 s.1) fun ds => ∃ j, ds = [.int j] ∧ (-(2 ^ 62) ≤ j ∧ j < 2 ^ 62) ∧ Q (rangeD 0 j.toNat, s.2)) : wp (iRange1 f r m) Q := by
  obtain ⟨⟨s, m1⟩, e1, ds, e2, j, rfl, hj, q⟩ := h
  refine wp_bind (wp_val e1 (wp_bind (wp_val e2 ?_)))
  show wp (if -(2 ^ 62) ≤ j ∧ j < 2 ^ 62 then _ else _) Q
  rw [if_pos hj]
  exact wp_ok q
theorem wp_mt {Ty : String} {op : D → List D → Out D} {fo : SE} {f : SA} {Q : D × List Cell → Prop} (h : wp (fo r m) fun o => wp (view o.2 o.1) fun d0 => isTy Ty d0 = true ∧ wp (f r o.2) fun s => wp (view s.2 o.1) fun dx => wp (views s.2 s.1) fun ds => wp (op dx ds) fun d => Q (d, s.2)) : wp (sMt Ty op fo f r m) Q := by
  obtain ⟨⟨o, m1⟩, e1, d0, e2, ht, ⟨ss, m2⟩, e3, dx, e4, ds, e5, d, e6, q⟩ := h
  refine wp_bind (wp_val e1 (wp_bind (wp_val e2 ?_)))
  rw [if_pos ht]
  exact wp_bind (wp_val e3 (wp_bind (wp_val e4 (wp_bind (wp_val e5 (wp_bind (wp_val e6 (wp_ok q))))))))
theorem wp_get2 {fo fi fx : SE} {Q : Sl × List Cell → Prop} (h : wp (fo r m) fun o => wp (view o.2 o.1) fun d0 => isDct d0 = true ∧ wp (fi r o.2) fun i => wp (fx r i.2) fun x => wp (toD x.1 x.2) fun dx => wp (view dx.2 i.1) fun dk => wp (view dx.2 o.1) fun dd => ∃ ks k, dd = .dct ks ∧ keyOf dk = some k ∧ Q (.val ((getK ks k).getD dx.1), dx.2)) : wp (sGet2 fo fi fx r m) Q := by
  obtain ⟨⟨o, m1⟩, e1, d0, e2, ht, ⟨i, m2⟩, e3, ⟨x, m3⟩, e4, ⟨dx, m4⟩, e5, dk, e6, dd, e7, ks, k, rfl, ek, q⟩ := h
  refine wp_bind (wp_val e1 (wp_bind (wp_val e2 ?_)))
  rw [if_pos ht]
  refine wp_bind (wp_val e3 (wp_bind (wp_val e4 (wp_bind (wp_val e5 (wp_bind (wp_val e6 (wp_bind (wp_val e7 ?_)))))))))
  simp only [ek]
  exact wp_ok q
theorem wp_setix {fo fi fe : SE} {Q : Fl × List Sl × List Cell → Prop} (h : wp (fe r m) fun s => wp (toD s.1 s.2) fun x => wp (fo r x.2) fun o => wp (fi r o.2) fun i => wp (cellL i.2 o.1) fun c => ∃ n q, i.1 = .val (.int n) ∧ ixN c.2.2.length n = some q ∧ Q (.nx, r, i.2.set c.1 ⟨c.2.1, .lst (c.2.2.set q x.1)⟩)) : wp (sSetIx fo fi fe r m) Q := by
  obtain ⟨⟨s, m1⟩, e1, ⟨x, m2⟩, e2, ⟨o, m3⟩, e3, ⟨i, m4⟩, e4, ⟨j, k, xs⟩, e5, n, q, rfl, e6, h⟩ := h
  refine wp_bind (wp_val e1 (wp_bind (wp_val e2 (wp_bind (wp_val e3 (wp_bind (wp_val e4 (wp_bind (wp_val e5 ?_)))))))))
  simp only [e6]
  exact wp_ok h
theorem wp_perm {nk : Nat} {perm : List Nat} {f : SA} {Q : List Sl × List Cell → Prop} (h : wp (f r m) fun s => s.1.length = nk ∧ Q (permL perm s.1, s.2)) : wp (aPerm nk perm f r m) Q := by
  obtain ⟨⟨s, m1⟩, e1, hz, q⟩ := h
  refine wp_bind (wp_val e1 ?_)
  show wp (if s.length = nk then _ else _) Q
  rw [if_pos hz]
  exact wp_ok q
end
theorem rangeD_get {lo : Int} {n i : Nat} {d : D} (h : (rangeD lo n)[i]? = some d) : d = .int (lo + i) ∧ i < n := by
  unfold rangeD at h
  rw [List.getElem?_map] at h
  cases e : (List.range n)[i]? with
  | none => rw [e] at h; cases h
  | some j =>
    rw [e] at h
    obtain ⟨hi, rfl⟩ := List.getElem?_eq_some_iff.mp e
    simp at h hi ⊢
    exact ⟨h.symm, hi⟩
theorem rangeD_len {lo : Int} {n : Nat} : (rangeD lo n).length = n := by simp [rangeD]
/-! ### the drawing defs that many laws share -/
end Nv
set_option Elab.async false
set_option linter.all false
set_option maxRecDepth 100000
set_option maxHeartbeats 4000000
namespace Nv
open PySem L2
local macro_rules | `(tactic| walk_at "stE") => `(tactic| with_reducible first | refine wp_mu ?_ | refine wp_sif ?_ | refine wp_callR ?_ | refine wp_tup ?_ | refine wp_isi ?_ | refine wp_app ?_ | refine wp_ext ?_ | refine wp_sl ?_ | refine wp_get2 ?_)
local macro_rules | `(tactic| walk_at "stS") => `(tactic| with_reducible first | refine wp_ret ?_ | refine wp_drop ?_ | refine wp_ifs ?_ | refine wp_put ?_ | refine wp_setix ?_ | refine wp_for ?_)
local macro_rules | `(tactic| walk_at "stF") => `(tactic| with_reducible first | refine wp_lst ?_ | refine wp_mt ?_ | refine wp_lc ?_)
local macro_rules | `(tactic| walk_at "stI") => `(tactic| with_reducible first | refine wp_iof ?_ | refine wp_range1 ?_)
local macro_rules | `(tactic| walk_at "stB") => `(tactic| with_reducible first | refine wp_btru ?_ | refine wp_bnot ?_ | refine wp_band ?_ | refine wp_bor ?_)
local macro_rules | `(tactic| walk_at "stA") => `(tactic| with_reducible first | refine wp_perm ?_)
local macro_rules | `(tactic| walk_at "stR") => `(tactic| first
  | with_reducible refine wp_mod (by omega) ?_
  | with_reducible refine wp_fdiv (by omega) ?_
  | with_reducible refine wp_mul (by omega) ?_
  | (refine wp_val rfl ?_; try dsimp only [List.set_cons_zero, List.set_cons_succ, wipeR])
  | (refine ⟨_, rfl, ?_⟩; try dsimp only)
  | (refine ⟨Nat.le_of_ble_eq_true rfl, ?_⟩; try dsimp only [List.set_cons_zero, List.set_cons_succ, wipeR])
  | (refine ⟨by decide, ?_⟩; try dsimp only [List.set_cons_zero, List.set_cons_succ, wipeR]))
local macro_rules | `(tactic| walk_at "st2") => `(tactic| first | (with_reducible refine ty_E ?_; walk_at "stE") | (with_reducible refine ty_S ?_; walk_at "stS") | (with_reducible refine ty_F ?_; walk_at "stF") | (with_reducible refine ty_I ?_; walk_at "stI") | (with_reducible refine ty_B ?_; walk_at "stB") | (with_reducible refine ty_A ?_; walk_at "stA") | walk_at "stR")
local macro_rules | `(tactic| walk_at "st") => `(tactic| first
  | ((with_reducible first | refine lf_var ?_ | refine lf_view ?_ | refine lf_sc ?_ | refine lf_anil ?_ | refine lf_views ?_ | refine lf_pre ?_ | refine lf_fin ?_ | refine lf_putb ?_ | refine lf_tod ?_ | refine lf_nx ?_ | refine lf_gn ?_ | refine lf_bys ?_); refine wp_val rfl ?_; try dsimp only [List.set_cons_zero, List.set_cons_succ, wipeR])
  | (with_reducible first | refine wp_acons ?_ | refine wp_op ?_ | refine wp_fz ?_ | refine wp_set ?_ | refine wp_seq ?_ | refine wp_call ?_ | refine wp_n ?_ | refine wp_bof ?_)
  | walk_at "st2")
theorem wp_lcY {r : List Sl} {g : SG} {fe : SE} {Q : List D × List Cell → Prop} (I : Nat → List D → List Cell → Prop) (ds : List D) (m : List Cell) (h0 : I 0 [] m)
    (hs : ∀ (i : Nat) (d : D) acc m, ds[i]? = some d → acc.length = i → I i acc m → wp (g (.val d) r m) fun r1 => wp (fe r1 m) fun s => wp (toD s.1 s.2) fun x => i < sizeLine ∧ I (i + 1) (acc ++ [x.1]) x.2)
    (hd : ∀ acc m, acc.length = ds.length → I ds.length acc m → Q (acc, m)) : wp (lcS g bYes fe r ds [] m) Q := by
  refine wp_lcS (I := fun k acc m => acc.length = k ∧ I k acc m) ds 0 [] m ⟨rfl, h0⟩ ?_ ?_
  · rintro i d acc m e ⟨hl, h⟩
    rw [Nat.zero_add] at hl h ⊢
    refine wp_mono (hs i d acc m e hl h) fun r1 h1 => wp_ok ⟨fun _ => ?_, fun h => nomatch h⟩
    refine wp_mono h1 fun s h2 => wp_mono h2 fun x h3 => ?_
    exact ⟨by rw [hl]; exact h3.1, by simp [hl], h3.2⟩
  · rintro acc m ⟨hl, h⟩
    rw [Nat.zero_add] at hl h
    exact hd acc m hl h
/-- a loop without a way out -/
theorem wp_loop {gg : SG} {body : SS} {Q : Fl × List Sl × List Cell → Prop} (I : Nat → List Sl → List Cell → Prop) (ds : List D) (r : List Sl) (m : List Cell) (h0 : I 0 r m)
    (hs : ∀ (i : Nat) (d : D) r m, ds[i]? = some d → I i r m → wp (gg (.val d) r m) fun r1 => wp (body r1 m) fun q => q.1 = .nx ∧ I (i + 1) q.2.1 q.2.2)
    (hd : ∀ r m, I ds.length r m → Q (.nx, r, m)) : wp (forS gg body ds r m) Q := by
  refine wp_forS I ds 0 r m h0 ?_ ?_
  · intro i d r m e h
    rw [Nat.zero_add] at h ⊢
    refine wp_mono (hs i d r m e h) fun r1 h1 => wp_mono h1 ?_
    rintro ⟨fl, r2, m2⟩ ⟨e, h⟩
    cases e
    exact h
  · intro r m h
    rw [Nat.zero_add] at h
    exact hd r m h
theorem PenOk.mono {A B : Int} {d : D} (h : PenOk A d) (hA : A ≤ B) : PenOk B d := by
  obtain ⟨cs, a, l, e, h1, h2, h3, h4⟩ := h
  exact ⟨cs, a, l, e, h1, h2, by omega, h4⟩
def StrL (n : Nat) (ds : List D) : Prop := ∀ d ∈ ds, ∃ x, d = .str x ∧ PyData.strOk x = true ∧ x.length ≤ n
theorem wp_pick {z : Str} {i : Int} {Q : D → Prop} (hs : PyData.strOk z = true) (hz : z.length ≤ 1000) (h0 : 0 ≤ i) (h : i < z.length) (q : ∀ x, PyData.strOk x = true → x.length = 1 → Q (.str x)) : wp (dIx (.str z) (.int i)) Q := by
  obtain ⟨c, e, hc⟩ := atI_nn z.cps.toList h0 (by simpa [Str.length] using h)
  refine wp_ixS (by show z.length ≤ 16777216; omega) e (q _ ?_ rfl)
  rw [sok_iff] at hs ⊢
  intro d hd
  simp at hd
  subst hd
  exact hs _ hc
theorem len_app (x y : Str) : (x ++ y).length = x.length + y.length := strLen_append x y
theorem StrL.nil {n : Nat} : StrL n [] := fun d h => nomatch h
theorem StrL.snoc {n : Nat} {ds : List D} {x : Str} (h : StrL n ds) (hx : PyData.strOk x = true) (hl : x.length ≤ n) : StrL n (ds ++ [.str x]) := fun d hd => by
  rcases List.mem_append.mp hd with hd | hd
  · exact h d hd
  · simp at hd; subst hd; exact ⟨x, rfl, hx, hl⟩
theorem join_ok {n : Nat} {ds : List D} {Q : D → Prop} (h : StrL n ds) (hn : ds.length * n ≤ 1000000) (q : ∀ x, PyData.strOk x = true → x.length ≤ ds.length * n → Q (.str x)) : wp (dJoin (.str "") [.lst ds]) Q := by
  have hs : ∃ ys, strsOf ds = some ys ∧ (∀ y ∈ ys, PyData.strOk y = true ∧ y.length ≤ n) ∧ ys.length = ds.length := by
    clear hn q
    induction ds with
    | nil => exact ⟨[], rfl, (fun y h => nomatch h), rfl⟩
    | cons d ds ih =>
      obtain ⟨ys, e, h1, h2⟩ := ih fun x hx => h x (List.mem_cons_of_mem _ hx)
      obtain ⟨x, rfl, hx, hl⟩ := h d (List.mem_cons_self ..)
      refine ⟨x :: ys, by simp only [strsOf, e, Option.map_some], fun y hy => ?_, by simp [h2]⟩
      rcases List.mem_cons.mp hy with rfl | hy
      · exact ⟨hx, hl⟩
      · exact h1 y hy
  obtain ⟨ys, e, h1, h2⟩ := hs
  have hsum : (ys.map (·.length)).sum ≤ ys.length * n := by
    clear h2 e
    induction ys with
    | nil => simp
    | cons y ys ih =>
      have := ih fun z hz => h1 z (List.mem_cons_of_mem _ hz)
      have := (h1 y (List.mem_cons_self ..)).2
      simp only [List.map_cons, List.sum_cons, List.length_cons, Nat.succ_mul]
      omega
  have h0 : (("" : String) : Str).length = 0 := rfl
  refine wp_val (a := .str (Txt.join "" ys)) ?_ (q _ ?_ ?_)
  · simp only [dJoin, e, ofO, ok_bind]
    rw [if_pos]
    rw [h0, h2] at *
    omega
  · show PyData.strOk (Builtin.Str.glued "" ys) = true
    rw [StrLaws.glued_eq_join]
    exact sok_join (sok_chars _) fun t ht => (h1 t ht).1
  · show (Builtin.Str.glued "" ys).length ≤ _
    have := StrLaws.join_length_le "" ys
    rw [StrLaws.glued_eq_join, ← h2]
    rw [h0] at this
    omega
end Nv
set_option Elab.async false
set_option linter.all false
set_option maxRecDepth 100000
set_option maxHeartbeats 4000000
namespace Nv
open PySem L2
local macro_rules | `(tactic| walk_at "stE") => `(tactic| with_reducible first | refine wp_mu ?_ | refine wp_sif ?_ | refine wp_callR ?_ | refine wp_tup ?_ | refine wp_isi ?_ | refine wp_app ?_ | refine wp_ext ?_ | refine wp_sl ?_ | refine wp_get2 ?_)
local macro_rules | `(tactic| walk_at "stS") => `(tactic| with_reducible first | refine wp_ret ?_ | refine wp_drop ?_ | refine wp_ifs ?_ | refine wp_put ?_ | refine wp_setix ?_ | refine wp_for ?_)
local macro_rules | `(tactic| walk_at "stF") => `(tactic| with_reducible first | refine wp_lst ?_ | refine wp_mt ?_ | refine wp_lc ?_)
local macro_rules | `(tactic| walk_at "stI") => `(tactic| with_reducible first | refine wp_iof ?_ | refine wp_range1 ?_)
local macro_rules | `(tactic| walk_at "stB") => `(tactic| with_reducible first | refine wp_btru ?_ | refine wp_bnot ?_ | refine wp_band ?_ | refine wp_bor ?_)
local macro_rules | `(tactic| walk_at "stA") => `(tactic| with_reducible first | refine wp_perm ?_)
local macro_rules | `(tactic| walk_at "stR") => `(tactic| first
  | with_reducible refine wp_mod (by omega) ?_
  | with_reducible refine wp_fdiv (by omega) ?_
  | with_reducible refine wp_mul (by omega) ?_
  | (refine wp_val rfl ?_; try dsimp only [List.set_cons_zero, List.set_cons_succ, wipeR])
  | (refine ⟨_, rfl, ?_⟩; try dsimp only)
  | (refine ⟨Nat.le_of_ble_eq_true rfl, ?_⟩; try dsimp only [List.set_cons_zero, List.set_cons_succ, wipeR])
  | (refine ⟨by decide, ?_⟩; try dsimp only [List.set_cons_zero, List.set_cons_succ, wipeR]))
local macro_rules | `(tactic| walk_at "st2") => `(tactic| first | (with_reducible refine ty_E ?_; walk_at "stE") | (with_reducible refine ty_S ?_; walk_at "stS") | (with_reducible refine ty_F ?_; walk_at "stF") | (with_reducible refine ty_I ?_; walk_at "stI") | (with_reducible refine ty_B ?_; walk_at "stB") | (with_reducible refine ty_A ?_; walk_at "stA") | walk_at "stR")
local macro_rules | `(tactic| walk_at "st") => `(tactic| first
  | ((with_reducible first | refine lf_var ?_ | refine lf_view ?_ | refine lf_sc ?_ | refine lf_anil ?_ | refine lf_views ?_ | refine lf_pre ?_ | refine lf_fin ?_ | refine lf_putb ?_ | refine lf_tod ?_ | refine lf_nx ?_ | refine lf_gn ?_ | refine lf_bys ?_); refine wp_val rfl ?_; try dsimp only [List.set_cons_zero, List.set_cons_succ, wipeR])
  | (with_reducible first | refine wp_acons ?_ | refine wp_op ?_ | refine wp_fz ?_ | refine wp_set ?_ | refine wp_seq ?_ | refine wp_call ?_ | refine wp_n ?_ | refine wp_bof ?_)
  | walk_at "st2")
theorem StrL.mono {n k : Nat} {ds : List D} (h : StrL n ds) (hk : n ≤ k) : StrL k ds := fun d hd => by
  obtain ⟨x, e, h1, h2⟩ := h d hd
  exact ⟨x, e, h1, by omega⟩
end Nv
set_option Elab.async false
set_option linter.all false
set_option maxRecDepth 100000
set_option maxHeartbeats 4000000
namespace Nv
open PySem L2
theorem nd0 : ([] : List Nat).Nodup := by simp
theorem nd1 (a : Nat) : [a].Nodup := by simp
theorem nd01 : ([0, 1] : List Nat).Nodup := by decide
local macro_rules | `(tactic| walk_at "stE") => `(tactic| with_reducible first | refine wp_mu ?_ | refine wp_sif ?_ | refine wp_callR ?_ | refine wp_tup ?_ | refine wp_isi ?_ | refine wp_app ?_ | refine wp_ext ?_ | refine wp_sl ?_ | refine wp_get2 ?_)
local macro_rules | `(tactic| walk_at "stS") => `(tactic| with_reducible first | refine wp_ret ?_ | refine wp_drop ?_ | refine wp_ifs ?_ | refine wp_put ?_ | refine wp_setix ?_ | refine wp_for ?_)
local macro_rules | `(tactic| walk_at "stF") => `(tactic| with_reducible first | refine wp_lst ?_ | refine wp_mt ?_ | refine wp_lc ?_)
local macro_rules | `(tactic| walk_at "stI") => `(tactic| with_reducible first | refine wp_iof ?_ | refine wp_range1 ?_)
local macro_rules | `(tactic| walk_at "stB") => `(tactic| with_reducible first | refine wp_btru ?_ | refine wp_bnot ?_ | refine wp_band ?_ | refine wp_bor ?_)
local macro_rules | `(tactic| walk_at "stA") => `(tactic| with_reducible first | refine wp_perm ?_)
local macro_rules | `(tactic| walk_at "stR") => `(tactic| first
  | with_reducible refine wp_mod (by omega) ?_
  | with_reducible refine wp_fdiv (by omega) ?_
  | with_reducible refine wp_mul (by omega) ?_
  | (refine wp_val rfl ?_; try dsimp only [List.set_cons_zero, List.set_cons_succ, wipeR])
  | (refine ⟨_, rfl, ?_⟩; try dsimp only)
  | (refine ⟨Nat.le_of_ble_eq_true rfl, ?_⟩; try dsimp only [List.set_cons_zero, List.set_cons_succ, wipeR])
  | (refine ⟨nd0, ?_⟩; try dsimp only [List.set_cons_zero, List.set_cons_succ, wipeR])
  | (refine ⟨nd1 _, ?_⟩; try dsimp only [List.set_cons_zero, List.set_cons_succ, wipeR])
  | (refine ⟨nd01, ?_⟩; try dsimp only [List.set_cons_zero, List.set_cons_succ, wipeR])
  | (refine ⟨by decide, ?_⟩; try dsimp only [List.set_cons_zero, List.set_cons_succ, wipeR]))
local macro_rules | `(tactic| walk_at "st2") => `(tactic| first | (with_reducible refine ty_E ?_; walk_at "stE") | (with_reducible refine ty_S ?_; walk_at "stS") | (with_reducible refine ty_F ?_; walk_at "stF") | (with_reducible refine ty_I ?_; walk_at "stI") | (with_reducible refine ty_B ?_; walk_at "stB") | (with_reducible refine ty_A ?_; walk_at "stA") | walk_at "stR")
local macro_rules | `(tactic| walk_at "st") => `(tactic| first
  | ((with_reducible first | refine lf_var ?_ | refine lf_view ?_ | refine lf_sc ?_ | refine lf_anil ?_ | refine lf_views ?_ | refine lf_pre ?_ | refine lf_fin ?_ | refine lf_putb ?_ | refine lf_tod ?_ | refine lf_nx ?_ | refine lf_gn ?_ | refine lf_bys ?_); refine wp_val rfl ?_; try dsimp only [List.set_cons_zero, List.set_cons_succ, wipeR])
  | (with_reducible first | refine wp_acons ?_ | refine wp_op ?_ | refine wp_fz ?_ | refine wp_set ?_ | refine wp_seq ?_ | refine wp_call ?_ | refine wp_n ?_ | refine wp_bof ?_)
  | walk_at "st2")
/-- a term, its words among L -/
def Tm (L : List D) : Nat → D → Prop
  | 0, _ => False
  | n + 1, d => (∃ x, d = .str x ∧ PyData.strOk x = true ∧ x.length ≤ 20) ∨ ∃ w ts, d = .tup (.str w :: ts) ∧ (PyData.strOk w = true ∧ w.length ≤ 20 ∧ .str w ∈ L) ∧ ∀ t ∈ ts, Tm L n t
def pcs : Nat → D → List D
  | 0, _ => []
  | n + 1, .tup (w :: ts) => .tup (w :: ts) :: ts.flatMap (pcs n)
  | _ + 1, d => [d]
theorem Tm.mono {L : List D} {n k : Nat} {d : D} (h : Tm L n d) (hk : n ≤ k) : Tm L k d := by
  induction n generalizing k d with
  | zero => exact h.elim
  | succ n ih =>
    obtain ⟨k, rfl⟩ : ∃ j, k = j + 1 := ⟨k - 1, by omega⟩
    rcases h with h | ⟨w, ts, rfl, h1, h3⟩
    · exact .inl h
    · exact .inr ⟨w, ts, rfl, h1, fun t ht => ih (h3 t ht) (by omega)⟩
theorem nice_ne {ds : List D} (h : NiceL 120 ds) : dNe (.lst ds) (.lst []) = .ok (.bl (!ds.isEmpty)) := by
  obtain ⟨ps, e2, h1, h2, h3, h4, h5⟩ := h.all
  have e : dEqB (.lst ds) (.lst []) = .ok ds.isEmpty := by
    simp only [dEqB, D.py, e2, Option.map_some, pyAll]
    rw [if_pos]
    · cases ds with
      | nil => cases e2; rfl
      | cons d ds =>
        cases ps with
        | nil => simp only [pyAll] at e2; split at e2 <;> cases e2
        | cons => rfl
    · exact ⟨by simp only [SeqAt.shaped, PyData.canLay0, h1, PyData.depth, Bool.true_and]; exact decide_eq_true (by omega), rfl⟩
  simp only [dNe, e, ok_bind]
end Nv
set_option Elab.async false
set_option linter.all false
set_option maxRecDepth 100000
set_option maxHeartbeats 4000000
namespace Nv
open PySem L2
theorem cut1 {A : Type} (w : A) (ts : List A) : cut (w :: ts) (some 1) none = ts := by
  unfold cut
  rw [show (1 : Int) = ((1 : Nat) : Int) from rfl, HT.sIx_nat, HT.sIx_none]
  simp
theorem isi_T {x : Str} : dIsi "str" (.str x) = .ok (.bl true) := rfl
theorem isi_F {x : List D} : dIsi "str" (.tup x) = .ok (.bl false) := rfl
theorem sl1 {w : D} {ts : List D} : dSl (.tup (w :: ts)) (some 1) none = .ok (.tup ts) := by simp only [dSl, cut1]
local macro_rules | `(tactic| walk_at "stE") => `(tactic| with_reducible first | refine wp_mu ?_ | refine wp_sif ?_ | refine wp_callR ?_ | refine wp_tup ?_ | refine wp_isi ?_ | refine wp_app ?_ | refine wp_ext ?_ | refine wp_sl ?_ | refine wp_get2 ?_)
local macro_rules | `(tactic| walk_at "stS") => `(tactic| with_reducible first | refine wp_ret ?_ | refine wp_drop ?_ | refine wp_ifs ?_ | refine wp_put ?_ | refine wp_setix ?_ | refine wp_for ?_)
local macro_rules | `(tactic| walk_at "stF") => `(tactic| with_reducible first | refine wp_lst ?_ | refine wp_mt ?_ | refine wp_lc ?_)
local macro_rules | `(tactic| walk_at "stI") => `(tactic| with_reducible first | refine wp_iof ?_ | refine wp_range1 ?_)
local macro_rules | `(tactic| walk_at "stB") => `(tactic| with_reducible first | refine wp_btru ?_ | refine wp_bnot ?_ | refine wp_band ?_ | refine wp_bor ?_)
local macro_rules | `(tactic| walk_at "stA") => `(tactic| with_reducible first | refine wp_perm ?_)
local macro_rules | `(tactic| walk_at "stR") => `(tactic| first
  | with_reducible refine wp_mod (by omega) ?_
  | with_reducible refine wp_fdiv (by omega) ?_
  | with_reducible refine wp_mul (by omega) ?_
  | (with_reducible refine wp_val isi_T ?_; try dsimp only)
  | (with_reducible refine wp_val sl1 ?_; try dsimp only)
  | (with_reducible refine wp_val isi_F ?_; try dsimp only)
  | (refine wp_val rfl ?_; try dsimp only [List.set_cons_zero, List.set_cons_succ, wipeR, List.length_nil, List.nil_append])
  | (refine ⟨_, rfl, ?_⟩; try dsimp only)
  | (refine ⟨Nat.le_of_ble_eq_true rfl, ?_⟩; try dsimp only [List.set_cons_zero, List.set_cons_succ, wipeR, List.length_nil, List.nil_append])
  | refine ⟨fun _ => ?_, fun h => absurd h (by decide)⟩
  | refine ⟨fun h => absurd h (by decide), fun _ => ?_⟩
  | (refine ⟨nd0, ?_⟩; try dsimp only [List.set_cons_zero, List.set_cons_succ, wipeR, List.length_nil, List.nil_append])
  | (refine ⟨nd1 _, ?_⟩; try dsimp only [List.set_cons_zero, List.set_cons_succ, wipeR, List.length_nil, List.nil_append])
  | (refine ⟨nd01, ?_⟩; try dsimp only [List.set_cons_zero, List.set_cons_succ, wipeR, List.length_nil, List.nil_append])
  | (refine ⟨by decide, ?_⟩; try dsimp only [List.set_cons_zero, List.set_cons_succ, wipeR, List.length_nil, List.nil_append]))
local macro_rules | `(tactic| walk_at "st2") => `(tactic| first | (with_reducible refine ty_E ?_; walk_at "stE") | (with_reducible refine ty_S ?_; walk_at "stS") | (with_reducible refine ty_F ?_; walk_at "stF") | (with_reducible refine ty_I ?_; walk_at "stI") | (with_reducible refine ty_B ?_; walk_at "stB") | (with_reducible refine ty_A ?_; walk_at "stA") | walk_at "stR")
local macro_rules | `(tactic| walk_at "st") => `(tactic| first
  | ((with_reducible first | refine lf_var ?_ | refine lf_view ?_ | refine lf_sc ?_ | refine lf_anil ?_ | refine lf_views ?_ | refine lf_pre ?_ | refine lf_fin ?_ | refine lf_putb ?_ | refine lf_tod ?_ | refine lf_nx ?_ | refine lf_gn ?_ | refine lf_bys ?_); refine wp_val rfl ?_; try dsimp only [List.set_cons_zero, List.set_cons_succ, wipeR, List.length_nil, List.nil_append])
  | (with_reducible first | refine wp_acons ?_ | refine wp_op ?_ | refine wp_fz ?_ | refine wp_set ?_ | refine wp_seq ?_ | refine wp_call ?_ | refine wp_n ?_ | refine wp_bof ?_)
  | walk_at "st2")
theorem Tm.str {L : List D} {n : Nat} {d : D} (h : Tm L n d) : dIsi "str" d = .ok (.bl true) ∧ (∃ x, d = .str x) ∨ dIsi "str" d = .ok (.bl false) ∧ ∃ w ts, d = .tup (.str w :: ts) := by
  cases n with
  | zero => exact h.elim
  | succ n =>
    rcases h with ⟨x, rfl, _⟩ | ⟨w, ts, rfl, _⟩
    · exact .inl ⟨rfl, x, rfl⟩
    · exact .inr ⟨rfl, w, ts, rfl⟩
/-- the deep of a term -/
def dep : Nat → D → Int
  | 0, _ => 0
  | n + 1, .tup (w :: ts) => 1 + maxI 0 (ts.map (dep n))
  | _ + 1, _ => 1
end Nv
set_option Elab.async false
set_option linter.all false
set_option maxRecDepth 100000
set_option maxHeartbeats 4000000
namespace Nv
open PySem L2
theorem at0 {A : Type} {w : A} {ts : List A} : atI (w :: ts) 0 = some w := by
  unfold atI ixN
  rw [if_pos (by omega), if_pos (by simp only [List.length_cons]; omega)]
  rfl
theorem ix0 {w : D} {ts : List D} : dIx (.tup (w :: ts)) (.int 0) = .ok w := by simp only [dIx, at0]
theorem ix0L {w : D} {ts : List D} : dIx (.lst (w :: ts)) (.int 0) = .ok w := by simp only [dIx, at0]
local macro_rules | `(tactic| walk_at "stE") => `(tactic| with_reducible first | refine wp_mu ?_ | refine wp_sif ?_ | refine wp_callR ?_ | refine wp_tup ?_ | refine wp_isi ?_ | refine wp_app ?_ | refine wp_ext ?_ | refine wp_sl ?_ | refine wp_get2 ?_)
local macro_rules | `(tactic| walk_at "stS") => `(tactic| with_reducible first | refine wp_ret ?_ | refine wp_drop ?_ | refine wp_ifs ?_ | refine wp_put ?_ | refine wp_setix ?_ | refine wp_for ?_)
local macro_rules | `(tactic| walk_at "stF") => `(tactic| with_reducible first | refine wp_lst ?_ | refine wp_mt ?_ | refine wp_lc ?_)
local macro_rules | `(tactic| walk_at "stI") => `(tactic| with_reducible first | refine wp_iof ?_ | refine wp_range1 ?_)
local macro_rules | `(tactic| walk_at "stB") => `(tactic| with_reducible first | refine wp_btru ?_ | refine wp_bnot ?_ | refine wp_band ?_ | refine wp_bor ?_)
local macro_rules | `(tactic| walk_at "stA") => `(tactic| with_reducible first | refine wp_perm ?_)
local macro_rules | `(tactic| walk_at "stR") => `(tactic| first
  | with_reducible refine wp_mod (by omega) ?_
  | with_reducible refine wp_fdiv (by omega) ?_
  | with_reducible refine wp_mul (by omega) ?_
  | (with_reducible refine wp_val isi_T ?_; try dsimp only)
  | (with_reducible refine wp_val sl1 ?_; try dsimp only)
  | (with_reducible refine wp_val ix0 ?_; try dsimp only)
  | (with_reducible refine wp_val ix0L ?_; try dsimp only)
  | (with_reducible refine wp_val isi_F ?_; try dsimp only)
  | (refine wp_val rfl ?_; try dsimp only [List.set_cons_zero, List.set_cons_succ, wipeR, List.length_nil, List.nil_append])
  | (refine ⟨_, rfl, ?_⟩; try dsimp only)
  | (refine ⟨Nat.le_of_ble_eq_true rfl, ?_⟩; try dsimp only [List.set_cons_zero, List.set_cons_succ, wipeR, List.length_nil, List.nil_append])
  | refine ⟨fun _ => ?_, fun h => absurd h (by decide)⟩
  | refine ⟨fun h => absurd h (by decide), fun _ => ?_⟩
  | (refine ⟨nd0, ?_⟩; try dsimp only [List.set_cons_zero, List.set_cons_succ, wipeR, List.length_nil, List.nil_append])
  | (refine ⟨nd1 _, ?_⟩; try dsimp only [List.set_cons_zero, List.set_cons_succ, wipeR, List.length_nil, List.nil_append])
  | (refine ⟨nd01, ?_⟩; try dsimp only [List.set_cons_zero, List.set_cons_succ, wipeR, List.length_nil, List.nil_append])
  | (refine ⟨by decide, ?_⟩; try dsimp only [List.set_cons_zero, List.set_cons_succ, wipeR, List.length_nil, List.nil_append]))
local macro_rules | `(tactic| walk_at "st2") => `(tactic| first | (with_reducible refine ty_E ?_; walk_at "stE") | (with_reducible refine ty_S ?_; walk_at "stS") | (with_reducible refine ty_F ?_; walk_at "stF") | (with_reducible refine ty_I ?_; walk_at "stI") | (with_reducible refine ty_B ?_; walk_at "stB") | (with_reducible refine ty_A ?_; walk_at "stA") | walk_at "stR")
local macro_rules | `(tactic| walk_at "st") => `(tactic| first
  | ((with_reducible first | refine lf_var ?_ | refine lf_view ?_ | refine lf_sc ?_ | refine lf_anil ?_ | refine lf_views ?_ | refine lf_pre ?_ | refine lf_fin ?_ | refine lf_putb ?_ | refine lf_tod ?_ | refine lf_nx ?_ | refine lf_gn ?_ | refine lf_bys ?_); refine wp_val rfl ?_; try dsimp only [List.set_cons_zero, List.set_cons_succ, wipeR, List.length_nil, List.nil_append])
  | (with_reducible first | refine wp_acons ?_ | refine wp_op ?_ | refine wp_fz ?_ | refine wp_set ?_ | refine wp_seq ?_ | refine wp_call ?_ | refine wp_n ?_ | refine wp_bof ?_)
  | walk_at "st2")
end Nv
set_option Elab.async false
set_option linter.all false
set_option maxRecDepth 100000
set_option maxHeartbeats 4000000
namespace Nv
open PySem L2
local macro_rules | `(tactic| walk_at "stE") => `(tactic| with_reducible first | refine wp_mu ?_ | refine wp_sif ?_ | refine wp_callR ?_ | refine wp_tup ?_ | refine wp_isi ?_ | refine wp_app ?_ | refine wp_ext ?_ | refine wp_sl ?_ | refine wp_get2 ?_)
local macro_rules | `(tactic| walk_at "stS") => `(tactic| with_reducible first | refine wp_ret ?_ | refine wp_drop ?_ | refine wp_ifs ?_ | refine wp_put ?_ | refine wp_setix ?_ | refine wp_for ?_)
local macro_rules | `(tactic| walk_at "stF") => `(tactic| with_reducible first | refine wp_lst ?_ | refine wp_mt ?_ | refine wp_lc ?_)
local macro_rules | `(tactic| walk_at "stI") => `(tactic| with_reducible first | refine wp_iof ?_ | refine wp_range1 ?_)
local macro_rules | `(tactic| walk_at "stB") => `(tactic| with_reducible first | refine wp_btru ?_ | refine wp_bnot ?_ | refine wp_band ?_ | refine wp_bor ?_)
local macro_rules | `(tactic| walk_at "stA") => `(tactic| with_reducible first | refine wp_perm ?_)
local macro_rules | `(tactic| walk_at "stR") => `(tactic| first
  | with_reducible refine wp_mod (by omega) ?_
  | with_reducible refine wp_fdiv (by omega) ?_
  | with_reducible refine wp_mul (by omega) ?_
  | (with_reducible refine wp_val isi_T ?_; try dsimp only)
  | (with_reducible refine wp_val sl1 ?_; try dsimp only)
  | (with_reducible refine wp_val ix0 ?_; try dsimp only)
  | (with_reducible refine wp_val ix0L ?_; try dsimp only)
  | (with_reducible refine wp_val isi_F ?_; try dsimp only)
  | (refine wp_val rfl ?_; try dsimp only [List.set_cons_zero, List.set_cons_succ, wipeR, List.length_nil, List.nil_append])
  | (refine ⟨_, rfl, ?_⟩; try dsimp only)
  | (refine ⟨Nat.le_of_ble_eq_true rfl, ?_⟩; try dsimp only [List.set_cons_zero, List.set_cons_succ, wipeR, List.length_nil, List.nil_append])
  | refine ⟨fun _ => ?_, fun h => absurd h (by decide)⟩
  | refine ⟨fun h => absurd h (by decide), fun _ => ?_⟩
  | refine ⟨(rfl : isDct _ = true), ?_⟩
  | (refine ⟨nd0, ?_⟩; try dsimp only [List.set_cons_zero, List.set_cons_succ, wipeR, List.length_nil, List.nil_append])
  | (refine ⟨nd1 _, ?_⟩; try dsimp only [List.set_cons_zero, List.set_cons_succ, wipeR, List.length_nil, List.nil_append])
  | (refine ⟨nd01, ?_⟩; try dsimp only [List.set_cons_zero, List.set_cons_succ, wipeR, List.length_nil, List.nil_append])
  | (refine ⟨by decide, ?_⟩; try dsimp only [List.set_cons_zero, List.set_cons_succ, wipeR, List.length_nil, List.nil_append]))
local macro_rules | `(tactic| walk_at "st2") => `(tactic| first | (with_reducible refine ty_E ?_; walk_at "stE") | (with_reducible refine ty_S ?_; walk_at "stS") | (with_reducible refine ty_F ?_; walk_at "stF") | (with_reducible refine ty_I ?_; walk_at "stI") | (with_reducible refine ty_B ?_; walk_at "stB") | (with_reducible refine ty_A ?_; walk_at "stA") | walk_at "stR")
local macro_rules | `(tactic| walk_at "st") => `(tactic| first
  | ((with_reducible first | refine lf_var ?_ | refine lf_view ?_ | refine lf_sc ?_ | refine lf_anil ?_ | refine lf_views ?_ | refine lf_pre ?_ | refine lf_fin ?_ | refine lf_putb ?_ | refine lf_tod ?_ | refine lf_nx ?_ | refine lf_gn ?_ | refine lf_bys ?_); refine wp_val rfl ?_; try dsimp only [List.set_cons_zero, List.set_cons_succ, wipeR, List.length_nil, List.nil_append])
  | (with_reducible first | refine wp_acons ?_ | refine wp_op ?_ | refine wp_fz ?_ | refine wp_set ?_ | refine wp_seq ?_ | refine wp_call ?_ | refine wp_n ?_ | refine wp_bof ?_)
  | walk_at "st2")
def Tms (L : List D) (n M : Nat) (ts : List D) : Prop := ∀ t ∈ ts, Tm L n t ∧ (pcs n t).length ≤ M
theorem Tms.pre {L : List D} {n M : Nat} {ts pre suf : List D} {t : D} (h : Tms L n M ts) (e : ts = pre ++ t :: suf) : Tms L n M pre ∧ pre.length * M ≤ ts.length * M ∧ Tm L n t ∧ (pcs n t).length ≤ M := by
  refine ⟨fun x hx => h x (by rw [e]; simp [hx]), Nat.mul_le_mul_right M (by rw [e]; simp), h t (by rw [e]; simp)⟩
end Nv
set_option Elab.async false
set_option linter.all false
set_option maxRecDepth 100000
set_option maxHeartbeats 4000000
namespace Nv
open PySem L2
local macro_rules | `(tactic| walk_at "stE") => `(tactic| with_reducible first | refine wp_mu ?_ | refine wp_sif ?_ | refine wp_callR ?_ | refine wp_tup ?_ | refine wp_isi ?_ | refine wp_app ?_ | refine wp_ext ?_ | refine wp_sl ?_ | refine wp_get2 ?_)
local macro_rules | `(tactic| walk_at "stS") => `(tactic| with_reducible first | refine wp_ret ?_ | refine wp_drop ?_ | refine wp_ifs ?_ | refine wp_put ?_ | refine wp_setix ?_ | refine wp_for ?_)
local macro_rules | `(tactic| walk_at "stF") => `(tactic| with_reducible first | refine wp_lst ?_ | refine wp_mt ?_ | refine wp_lc ?_)
local macro_rules | `(tactic| walk_at "stI") => `(tactic| with_reducible first | refine wp_iof ?_ | refine wp_range1 ?_)
local macro_rules | `(tactic| walk_at "stB") => `(tactic| with_reducible first | refine wp_btru ?_ | refine wp_bnot ?_ | refine wp_band ?_ | refine wp_bor ?_)
local macro_rules | `(tactic| walk_at "stA") => `(tactic| with_reducible first | refine wp_perm ?_)
local macro_rules | `(tactic| walk_at "stR") => `(tactic| first
  | with_reducible refine wp_mod (by omega) ?_
  | with_reducible refine wp_fdiv (by omega) ?_
  | with_reducible refine wp_mul (by omega) ?_
  | (with_reducible refine wp_val isi_T ?_; try dsimp only)
  | (with_reducible refine wp_val sl1 ?_; try dsimp only)
  | (with_reducible refine wp_val ix0 ?_; try dsimp only)
  | (with_reducible refine wp_val ix0L ?_; try dsimp only)
  | (with_reducible refine wp_val isi_F ?_; try dsimp only)
  | (refine wp_val rfl ?_; try dsimp only [List.set_cons_zero, List.set_cons_succ, wipeR, List.length_nil, List.nil_append])
  | (refine ⟨_, rfl, ?_⟩; try dsimp only)
  | (refine ⟨Nat.le_of_ble_eq_true rfl, ?_⟩; try dsimp only [List.set_cons_zero, List.set_cons_succ, wipeR, List.length_nil, List.nil_append])
  | refine ⟨fun _ => ?_, fun h => absurd h (by decide)⟩
  | refine ⟨fun h => absurd h (by decide), fun _ => ?_⟩
  | refine ⟨(rfl : isDct _ = true), ?_⟩
  | (refine ⟨nd0, ?_⟩; try dsimp only [List.set_cons_zero, List.set_cons_succ, wipeR, List.length_nil, List.nil_append])
  | (refine ⟨nd1 _, ?_⟩; try dsimp only [List.set_cons_zero, List.set_cons_succ, wipeR, List.length_nil, List.nil_append])
  | (refine ⟨nd01, ?_⟩; try dsimp only [List.set_cons_zero, List.set_cons_succ, wipeR, List.length_nil, List.nil_append])
  | (refine ⟨by decide, ?_⟩; try dsimp only [List.set_cons_zero, List.set_cons_succ, wipeR, List.length_nil, List.nil_append]))
local macro_rules | `(tactic| walk_at "st2") => `(tactic| first | (with_reducible refine ty_E ?_; walk_at "stE") | (with_reducible refine ty_S ?_; walk_at "stS") | (with_reducible refine ty_F ?_; walk_at "stF") | (with_reducible refine ty_I ?_; walk_at "stI") | (with_reducible refine ty_B ?_; walk_at "stB") | (with_reducible refine ty_A ?_; walk_at "stA") | walk_at "stR")
local macro_rules | `(tactic| walk_at "st") => `(tactic| first
  | ((with_reducible first | refine lf_var ?_ | refine lf_view ?_ | refine lf_sc ?_ | refine lf_anil ?_ | refine lf_views ?_ | refine lf_pre ?_ | refine lf_fin ?_ | refine lf_putb ?_ | refine lf_tod ?_ | refine lf_nx ?_ | refine lf_gn ?_ | refine lf_bys ?_); refine wp_val rfl ?_; try dsimp only [List.set_cons_zero, List.set_cons_succ, wipeR, List.length_nil, List.nil_append])
  | (with_reducible first | refine wp_acons ?_ | refine wp_op ?_ | refine wp_fz ?_ | refine wp_set ?_ | refine wp_seq ?_ | refine wp_call ?_ | refine wp_n ?_ | refine wp_bof ?_)
  | walk_at "st2")
/-! ### weights -/
/-! ### no two alike -/
end Nv
set_option Elab.async false
set_option linter.all false
set_option maxRecDepth 100000
set_option maxHeartbeats 4000000
namespace Nv
open PySem L2
local macro_rules | `(tactic| walk_at "stE") => `(tactic| with_reducible first | refine wp_mu ?_ | refine wp_sif ?_ | refine wp_callR ?_ | refine wp_tup ?_ | refine wp_isi ?_ | refine wp_app ?_ | refine wp_ext ?_ | refine wp_sl ?_ | refine wp_get2 ?_)
local macro_rules | `(tactic| walk_at "stS") => `(tactic| with_reducible first | refine wp_ret ?_ | refine wp_drop ?_ | refine wp_ifs ?_ | refine wp_put ?_ | refine wp_setix ?_ | refine wp_for ?_)
local macro_rules | `(tactic| walk_at "stF") => `(tactic| with_reducible first | refine wp_lst ?_ | refine wp_mt ?_ | refine wp_lc ?_)
local macro_rules | `(tactic| walk_at "stI") => `(tactic| with_reducible first | refine wp_iof ?_ | refine wp_range1 ?_)
local macro_rules | `(tactic| walk_at "stB") => `(tactic| with_reducible first | refine wp_btru ?_ | refine wp_bnot ?_ | refine wp_band ?_ | refine wp_bor ?_)
local macro_rules | `(tactic| walk_at "stA") => `(tactic| with_reducible first | refine wp_perm ?_)
local macro_rules | `(tactic| walk_at "stR") => `(tactic| first
  | with_reducible refine wp_mod (by omega) ?_
  | with_reducible refine wp_fdiv (by omega) ?_
  | with_reducible refine wp_mul (by omega) ?_
  | (with_reducible refine wp_val isi_T ?_; try dsimp only)
  | (with_reducible refine wp_val sl1 ?_; try dsimp only)
  | (with_reducible refine wp_val ix0 ?_; try dsimp only)
  | (with_reducible refine wp_val ix0L ?_; try dsimp only)
  | (with_reducible refine wp_val isi_F ?_; try dsimp only)
  | (refine wp_val rfl ?_; try dsimp only [List.set_cons_zero, List.set_cons_succ, wipeR, List.length_nil, List.nil_append])
  | (refine ⟨_, rfl, ?_⟩; try dsimp only)
  | (refine ⟨Nat.le_of_ble_eq_true rfl, ?_⟩; try dsimp only [List.set_cons_zero, List.set_cons_succ, wipeR, List.length_nil, List.nil_append])
  | refine ⟨fun _ => ?_, fun h => absurd h (by decide)⟩
  | refine ⟨fun h => absurd h (by decide), fun _ => ?_⟩
  | refine ⟨(rfl : isDct _ = true), ?_⟩
  | (refine ⟨nd0, ?_⟩; try dsimp only [List.set_cons_zero, List.set_cons_succ, wipeR, List.length_nil, List.nil_append])
  | (refine ⟨nd1 _, ?_⟩; try dsimp only [List.set_cons_zero, List.set_cons_succ, wipeR, List.length_nil, List.nil_append])
  | (refine ⟨nd01, ?_⟩; try dsimp only [List.set_cons_zero, List.set_cons_succ, wipeR, List.length_nil, List.nil_append])
  | (refine ⟨by decide, ?_⟩; try dsimp only [List.set_cons_zero, List.set_cons_succ, wipeR, List.length_nil, List.nil_append]))
local macro_rules | `(tactic| walk_at "st2") => `(tactic| first | (with_reducible refine ty_E ?_; walk_at "stE") | (with_reducible refine ty_S ?_; walk_at "stS") | (with_reducible refine ty_F ?_; walk_at "stF") | (with_reducible refine ty_I ?_; walk_at "stI") | (with_reducible refine ty_B ?_; walk_at "stB") | (with_reducible refine ty_A ?_; walk_at "stA") | walk_at "stR")
local macro_rules | `(tactic| walk_at "st") => `(tactic| first
  | ((with_reducible first | refine lf_var ?_ | refine lf_view ?_ | refine lf_sc ?_ | refine lf_anil ?_ | refine lf_views ?_ | refine lf_pre ?_ | refine lf_fin ?_ | refine lf_putb ?_ | refine lf_tod ?_ | refine lf_nx ?_ | refine lf_gn ?_ | refine lf_bys ?_); refine wp_val rfl ?_; try dsimp only [List.set_cons_zero, List.set_cons_succ, wipeR, List.length_nil, List.nil_append])
  | (with_reducible first | refine wp_acons ?_ | refine wp_op ?_ | refine wp_fz ?_ | refine wp_set ?_ | refine wp_seq ?_ | refine wp_call ?_ | refine wp_n ?_ | refine wp_bof ?_)
  | walk_at "st2")
/-! ### what can be written, dicts too -/
mutual
def sokP : PyData → Bool
  | .str x => PyData.strOk x
  | .list xs => sokPs xs
  | .tuple xs => sokPs xs
  | .dict kvs => sokPk kvs
  | _ => true
def sokPs : List PyData → Bool
  | [] => true
  | x :: xs => sokP x && sokPs xs
def sokPk : List (PyData × PyData) → Bool
  | [] => true
  | (k, v) :: r => sokP k && sokP v && sokPk r
end
mutual
theorem sok_shownD : ∀ p : PyData, sokP p = true → PyData.strOk p.shown = true
  | .none, _ => sok_chars _
  | .bool b, _ => by cases b <;> exact sok_chars _
  | .int i, _ => sok_chars _
  | .str x, h => sok_repr (by simpa only [sokP] using h)
  | .list xs, h => by
    have := sok_shownDs xs (by simpa only [sokP] using h)
    simp only [PyData.shown]
    rw [listText_eq_join]
    exact sok_app (sok_app (sok_chars _) (sok_join (sok_chars _) this)) (sok_chars _)
  | .tuple xs, h => by
    have := sok_shownDs xs (by simpa only [sokP] using h)
    simp only [PyData.shown, tupleText]
    refine sok_app (sok_app (sok_chars _) (sok_join (sok_chars _) this)) ?_
    split <;> exact sok_chars _
  | .dict kvs, h => by
    have := sok_shownDk kvs (by simpa only [sokP] using h)
    simp only [PyData.shown, dictText]
    exact sok_app (sok_app (sok_chars _) (sok_join (sok_chars _) this)) (sok_chars _)
theorem sok_shownDs : ∀ ps : List PyData, sokPs ps = true → ∀ t ∈ PyData.shownAll ps, PyData.strOk t = true
  | [], _, t, ht => by simp only [PyData.shownAll] at ht; cases ht
  | p :: ps, h, t, ht => by
    simp only [sokPs, Bool.and_eq_true] at h
    simp only [PyData.shownAll] at ht
    rcases List.mem_cons.mp ht with rfl | ht
    · exact sok_shownD p h.1
    · exact sok_shownDs ps h.2 t ht
theorem sok_shownDk : ∀ ps : List (PyData × PyData), sokPk ps = true → ∀ t ∈ PyData.shownKv ps, PyData.strOk t = true
  | [], _, t, ht => by simp only [PyData.shownKv] at ht; cases ht
  | (k, v) :: ps, h, t, ht => by
    simp only [sokPk, Bool.and_eq_true] at h
    simp only [PyData.shownKv] at ht
    rcases List.mem_cons.mp ht with rfl | ht
    · exact sok_app (sok_app (sok_shownD k h.1.1) (sok_chars _)) (sok_shownD v h.1.2)
    · exact sok_shownDk ps h.2 t ht
end
mutual
theorem sokP_of : ∀ p : PyData, p.canLay0 = true → sokP p = true
  | .none, _ => rfl
  | .bool b, _ => rfl
  | .int i, _ => rfl
  | .str x, h => by simpa only [sokP, PyData.canLay0] using h
  | .list xs, h => by simp only [sokP]; exact sokPs_of xs (by simpa only [PyData.canLay0] using h)
  | .tuple xs, h => by simp only [sokP]; exact sokPs_of xs (by simpa only [PyData.canLay0] using h)
  | .dict _, h => by simp only [PyData.canLay0] at h; cases h
theorem sokPs_of : ∀ ps : List PyData, PyData.canLayAll0 ps = true → sokPs ps = true
  | [], _ => rfl
  | p :: ps, h => by
    simp only [PyData.canLayAll0, Bool.and_eq_true] at h
    simp only [sokPs, sokP_of p h.1, sokPs_of ps h.2, Bool.and_self]
end
structure NicePD (n : Nat) (p : PyData) : Prop where
  sok : sokP p = true
  sho : p.showable = true
  lea : p.leavesShort 30 = true
  dep : p.depth ≤ n
def NiceD (n : Nat) (d : D) : Prop := ∃ p, d.py = some p ∧ NicePD n p
theorem Nice.d {n : Nat} {d : D} (h : Nice n d) : NiceD n d := by
  obtain ⟨p, e, hp⟩ := h
  exact ⟨p, e, sokP_of p hp.lay, hp.sho, hp.lea, Nat.le_trans hp.dep (by omega)⟩
theorem NiceD.mono {n k : Nat} {d : D} (h : NiceD n d) (hk : n ≤ k) : NiceD k d := by
  obtain ⟨p, e, hp⟩ := h
  exact ⟨p, e, hp.sok, hp.sho, hp.lea, Nat.le_trans hp.dep hk⟩
theorem repr_neD {d : D} (h : NiceD 120 d) (hw : wt d ≤ 500000) : ∃ s, dReprD [d] = .ok (.str s) ∧ dNe (.str s) (.str s) = .ok (.bl false) ∧ dEq (.str s) (.str s) = .ok (.bl true) := by
  obtain ⟨p, e, hp⟩ := h
  have hs := PyData.shown_le 30 (by omega) p hp.lea
  have hw : p.weight ≤ 500000 := by simpa only [wt, e] using hw
  have hk := sok_shownD p hp.sok
  have he : dEqB (.str p.shown) (.str p.shown) = .ok true := by
    simp only [dEqB, D.py]
    rw [if_pos ⟨shaped_str hk, shaped_str hk⟩, eqv_str]
  refine ⟨p.shown, ?_, by simp only [dNe, he, ok_bind, Bool.not_true], by simp only [dEq, he, ok_bind]⟩
  simp only [dReprD, e]
  rw [if_pos ⟨hp.sho, by show p.shown.length ≤ 16777216; omega, Nat.le_trans hp.dep (by omega)⟩]
/-! ### filled -/
end Nv
set_option Elab.async false
set_option linter.all false
set_option maxRecDepth 100000
set_option maxHeartbeats 4000000
namespace Nv
open PySem L2
local macro_rules | `(tactic| walk_at "stE") => `(tactic| with_reducible first | refine wp_mu ?_ | refine wp_sif ?_ | refine wp_callR ?_ | refine wp_tup ?_ | refine wp_isi ?_ | refine wp_app ?_ | refine wp_ext ?_ | refine wp_sl ?_ | refine wp_get2 ?_)
local macro_rules | `(tactic| walk_at "stS") => `(tactic| with_reducible first | refine wp_ret ?_ | refine wp_drop ?_ | refine wp_ifs ?_ | refine wp_put ?_ | refine wp_setix ?_ | refine wp_for ?_)
local macro_rules | `(tactic| walk_at "stF") => `(tactic| with_reducible first | refine wp_lst ?_ | refine wp_mt ?_ | refine wp_lc ?_)
local macro_rules | `(tactic| walk_at "stI") => `(tactic| with_reducible first | refine wp_iof ?_ | refine wp_range1 ?_)
local macro_rules | `(tactic| walk_at "stB") => `(tactic| with_reducible first | refine wp_btru ?_ | refine wp_bnot ?_ | refine wp_band ?_ | refine wp_bor ?_)
local macro_rules | `(tactic| walk_at "stA") => `(tactic| with_reducible first | refine wp_perm ?_)
local macro_rules | `(tactic| walk_at "stR") => `(tactic| first
  | with_reducible refine wp_mod (by omega) ?_
  | with_reducible refine wp_fdiv (by omega) ?_
  | with_reducible refine wp_mul (by omega) ?_
  | (with_reducible refine wp_val isi_T ?_; try dsimp only)
  | (with_reducible refine wp_val sl1 ?_; try dsimp only)
  | (with_reducible refine wp_val ix0 ?_; try dsimp only)
  | (with_reducible refine wp_val ix0L ?_; try dsimp only)
  | (with_reducible refine wp_val isi_F ?_; try dsimp only)
  | (refine wp_val rfl ?_; try dsimp only [List.set_cons_zero, List.set_cons_succ, wipeR, List.length_nil, List.nil_append])
  | (refine ⟨_, rfl, ?_⟩; try dsimp only)
  | (refine ⟨Nat.le_of_ble_eq_true rfl, ?_⟩; try dsimp only [List.set_cons_zero, List.set_cons_succ, wipeR, List.length_nil, List.nil_append])
  | refine ⟨fun _ => ?_, fun h => absurd h (by decide)⟩
  | refine ⟨fun h => absurd h (by decide), fun _ => ?_⟩
  | refine ⟨(rfl : isDct _ = true), ?_⟩
  | (refine ⟨nd0, ?_⟩; try dsimp only [List.set_cons_zero, List.set_cons_succ, wipeR, List.length_nil, List.nil_append])
  | (refine ⟨nd1 _, ?_⟩; try dsimp only [List.set_cons_zero, List.set_cons_succ, wipeR, List.length_nil, List.nil_append])
  | (refine ⟨nd01, ?_⟩; try dsimp only [List.set_cons_zero, List.set_cons_succ, wipeR, List.length_nil, List.nil_append])
  | (refine ⟨by decide, ?_⟩; try dsimp only [List.set_cons_zero, List.set_cons_succ, wipeR, List.length_nil, List.nil_append]))
local macro_rules | `(tactic| walk_at "st2") => `(tactic| first | (with_reducible refine ty_E ?_; walk_at "stE") | (with_reducible refine ty_S ?_; walk_at "stS") | (with_reducible refine ty_F ?_; walk_at "stF") | (with_reducible refine ty_I ?_; walk_at "stI") | (with_reducible refine ty_B ?_; walk_at "stB") | (with_reducible refine ty_A ?_; walk_at "stA") | walk_at "stR")
local macro_rules | `(tactic| walk_at "st") => `(tactic| first
  | ((with_reducible first | refine lf_var ?_ | refine lf_view ?_ | refine lf_sc ?_ | refine lf_anil ?_ | refine lf_views ?_ | refine lf_pre ?_ | refine lf_fin ?_ | refine lf_putb ?_ | refine lf_tod ?_ | refine lf_nx ?_ | refine lf_gn ?_ | refine lf_bys ?_); refine wp_val rfl ?_; try dsimp only [List.set_cons_zero, List.set_cons_succ, wipeR, List.length_nil, List.nil_append])
  | (with_reducible first | refine wp_acons ?_ | refine wp_op ?_ | refine wp_fz ?_ | refine wp_set ?_ | refine wp_seq ?_ | refine wp_call ?_ | refine wp_n ?_ | refine wp_bof ?_)
  | walk_at "st2")
/-- how many draws and parts a full term of deep n has -/
def S : Nat → Nat
  | 0 => 0
  | n + 1 => 1 + 3 * S n
end Nv
set_option Elab.async false
set_option linter.all false
set_option maxRecDepth 100000
set_option maxHeartbeats 4000000
namespace Nv
open PySem L2
local macro_rules | `(tactic| walk_at "stE") => `(tactic| with_reducible first | refine wp_mu ?_ | refine wp_sif ?_ | refine wp_callR ?_ | refine wp_tup ?_ | refine wp_isi ?_ | refine wp_app ?_ | refine wp_ext ?_ | refine wp_sl ?_ | refine wp_get2 ?_)
local macro_rules | `(tactic| walk_at "stS") => `(tactic| with_reducible first | refine wp_ret ?_ | refine wp_drop ?_ | refine wp_ifs ?_ | refine wp_put ?_ | refine wp_setix ?_ | refine wp_for ?_)
local macro_rules | `(tactic| walk_at "stF") => `(tactic| with_reducible first | refine wp_lst ?_ | refine wp_mt ?_ | refine wp_lc ?_)
local macro_rules | `(tactic| walk_at "stI") => `(tactic| with_reducible first | refine wp_iof ?_ | refine wp_range1 ?_)
local macro_rules | `(tactic| walk_at "stB") => `(tactic| with_reducible first | refine wp_btru ?_ | refine wp_bnot ?_ | refine wp_band ?_ | refine wp_bor ?_)
local macro_rules | `(tactic| walk_at "stA") => `(tactic| with_reducible first | refine wp_perm ?_)
local macro_rules | `(tactic| walk_at "stR") => `(tactic| first
  | with_reducible refine wp_mod (by omega) ?_
  | with_reducible refine wp_fdiv (by omega) ?_
  | with_reducible refine wp_mul (by omega) ?_
  | (with_reducible refine wp_val isi_T ?_; try dsimp only)
  | (with_reducible refine wp_val sl1 ?_; try dsimp only)
  | (with_reducible refine wp_val ix0 ?_; try dsimp only)
  | (with_reducible refine wp_val ix0L ?_; try dsimp only)
  | (with_reducible refine wp_val isi_F ?_; try dsimp only)
  | (refine wp_val rfl ?_; try dsimp only [List.set_cons_zero, List.set_cons_succ, wipeR, List.length_nil, List.nil_append])
  | (refine ⟨_, rfl, ?_⟩; try dsimp only)
  | (refine ⟨Nat.le_of_ble_eq_true rfl, ?_⟩; try dsimp only [List.set_cons_zero, List.set_cons_succ, wipeR, List.length_nil, List.nil_append])
  | refine ⟨fun _ => ?_, fun h => absurd h (by decide)⟩
  | refine ⟨fun h => absurd h (by decide), fun _ => ?_⟩
  | refine ⟨(rfl : isDct _ = true), ?_⟩
  | (refine ⟨nd0, ?_⟩; try dsimp only [List.set_cons_zero, List.set_cons_succ, wipeR, List.length_nil, List.nil_append])
  | (refine ⟨nd1 _, ?_⟩; try dsimp only [List.set_cons_zero, List.set_cons_succ, wipeR, List.length_nil, List.nil_append])
  | (refine ⟨nd01, ?_⟩; try dsimp only [List.set_cons_zero, List.set_cons_succ, wipeR, List.length_nil, List.nil_append])
  | (refine ⟨by decide, ?_⟩; try dsimp only [List.set_cons_zero, List.set_cons_succ, wipeR, List.length_nil, List.nil_append]))
local macro_rules | `(tactic| walk_at "st2") => `(tactic| first | (with_reducible refine ty_E ?_; walk_at "stE") | (with_reducible refine ty_S ?_; walk_at "stS") | (with_reducible refine ty_F ?_; walk_at "stF") | (with_reducible refine ty_I ?_; walk_at "stI") | (with_reducible refine ty_B ?_; walk_at "stB") | (with_reducible refine ty_A ?_; walk_at "stA") | walk_at "stR")
local macro_rules | `(tactic| walk_at "st") => `(tactic| first
  | ((with_reducible first | refine lf_var ?_ | refine lf_view ?_ | refine lf_sc ?_ | refine lf_anil ?_ | refine lf_views ?_ | refine lf_pre ?_ | refine lf_fin ?_ | refine lf_putb ?_ | refine lf_tod ?_ | refine lf_nx ?_ | refine lf_gn ?_ | refine lf_bys ?_); refine wp_val rfl ?_; try dsimp only [List.set_cons_zero, List.set_cons_succ, wipeR, List.length_nil, List.nil_append])
  | (with_reducible first | refine wp_acons ?_ | refine wp_op ?_ | refine wp_fz ?_ | refine wp_set ?_ | refine wp_seq ?_ | refine wp_call ?_ | refine wp_n ?_ | refine wp_bof ?_)
  | walk_at "st2")
section
variable {r : List Sl} {m : List Cell}
theorem wp_star {f : SE} {g : SA} {Q : List Sl × List Cell → Prop} (h : wp (f r m) fun s => wp (toD s.1 s.2) fun d => ∃ xs, (d.1 = .lst xs ∨ d.1 = .tup xs) ∧ wp (g r d.2) fun ss => Q (xs.map .val ++ ss.1, ss.2)) : wp (aStar f g r m) Q := by
  obtain ⟨⟨s, m1⟩, e1, ⟨d, m2⟩, e2, xs, hd, ⟨ss, m3⟩, e3, q⟩ := h
  refine wp_bind (wp_val e1 (wp_bind (wp_val e2 ?_)))
  rcases hd with e | e
  · have e : d = .lst xs := e
    subst e
    exact wp_bind (wp_val rfl (wp_bind (wp_val e3 (wp_ok q))))
  · have e : d = .tup xs := e
    subst e
    exact wp_bind (wp_val rfl (wp_bind (wp_val e3 (wp_ok q))))
theorem wp_rev {f : SE} {Q : D × List Cell → Prop} (h : wp (f r m) fun s => wp (view s.2 s.1) fun d => wp (dRev d) fun x => Q (x, s.2)) : wp (fRev f r m) Q := by
  obtain ⟨⟨s, m1⟩, e1, d, e2, x, e3, q⟩ := h
  exact wp_bind (wp_val e1 (wp_bind (wp_val e2 (wp_bind (wp_val e3 (wp_ok q))))))
theorem wp_s2 {op : D → D → Out D} {fa fb : SE} {Q : D × List Cell → Prop} (h : wp (fa r m) fun p => wp (fb r p.2) fun q => wp (view q.2 p.1) fun dx => wp (view q.2 q.1) fun dy => wp (op dx dy) fun d => Q (d, q.2)) : wp (s2 op fa fb r m) Q := by
  obtain ⟨⟨x, m1⟩, e1, ⟨y, m2⟩, e2, dx, e3, dy, e4, d, e5, q⟩ := h
  exact wp_bind (wp_val e1 (wp_bind (wp_val e2 (wp_bind (wp_val e3 (wp_bind (wp_val e4 (wp_bind (wp_val e5 (wp_ok q))))))))))
theorem wp_sand {f g : SE} {Q : Sl × List Cell → Prop} (h : wp (bOf f r m) fun q => (q.1 = true → wp (g r q.2) Q) ∧ (q.1 = false → Q (.val (.bl false), q.2))) : wp (sAnd f g r m) Q := by
  obtain ⟨⟨b, m1⟩, e1, h1, h2⟩ := h
  refine wp_bind (wp_val e1 ?_)
  cases b with
  | true => exact h1 rfl
  | false => exact wp_ok (h2 rfl)
theorem wp_enu {f : SE} {Q : List D × List Cell → Prop} (h : wp (f r m) fun s => wp (toD s.1 s.2) fun d => ∃ xs, d.1 = .tup xs ∧ Q (enumD xs, d.2)) : wp (iEnu f r m) Q := by
  obtain ⟨⟨s, m1⟩, e1, ⟨d, m2⟩, e2, xs, e, q⟩ := h
  have e : d = .tup xs := e
  subst e
  exact wp_bind (wp_val e1 (wp_bind (wp_val e2 (wp_ok q))))
theorem wp_dc {vs : List Nat} {f : SI} {g : SG} {ft : SB} {fk fe : SE} {Q : D × List Cell → Prop} (h : wp (f r m) fun q => wp (dcS g ft fk fe (wipeR r vs) q.1 [] q.2) fun p => Q (.dct p.1, p.2)) : wp (fDc vs f g ft fk fe r m) Q := by
  obtain ⟨⟨ds, m1⟩, e1, ⟨xs, m2⟩, e2, q⟩ := h
  exact wp_bind (wp_val e1 (wp_bind (wp_val e2 (wp_ok q))))
end
end Nv
set_option Elab.async false
set_option linter.all false
set_option maxRecDepth 100000
set_option maxHeartbeats 4000000
namespace Nv
open PySem L2 Nv
local macro_rules | `(tactic| walk_at "stE") => `(tactic| with_reducible first | refine wp_mu ?_ | refine wp_sif ?_ | refine wp_callR ?_ | refine wp_tup ?_ | refine wp_isi ?_ | refine wp_app ?_ | refine wp_ext ?_ | refine wp_sl ?_ | refine wp_get2 ?_ | refine wp_sand ?_)
local macro_rules | `(tactic| walk_at "stS") => `(tactic| with_reducible first | refine wp_ret ?_ | refine wp_drop ?_ | refine wp_ifs ?_ | refine wp_put ?_ | refine wp_setix ?_ | refine wp_for ?_)
local macro_rules | `(tactic| walk_at "stF") => `(tactic| with_reducible first | refine wp_lst ?_ | refine wp_mt ?_ | refine wp_lc ?_ | refine wp_rev ?_ | refine wp_s2 ?_ | refine wp_dc ?_)
local macro_rules | `(tactic| walk_at "stI") => `(tactic| with_reducible first | refine wp_iof ?_ | refine wp_range1 ?_ | refine wp_enu ?_)
local macro_rules | `(tactic| walk_at "stB") => `(tactic| with_reducible first | refine wp_btru ?_ | refine wp_bnot ?_ | refine wp_band ?_ | refine wp_bor ?_)
local macro_rules | `(tactic| walk_at "stA") => `(tactic| with_reducible first | refine wp_perm ?_ | refine wp_star ?_)
local macro_rules | `(tactic| walk_at "stR") => `(tactic| first
  | with_reducible refine wp_mod (by omega) ?_
  | with_reducible refine wp_fdiv (by omega) ?_
  | with_reducible refine wp_mul (by omega) ?_
  | (with_reducible refine wp_val isi_T ?_; try dsimp only)
  | (with_reducible refine wp_val sl1 ?_; try dsimp only)
  | (with_reducible refine wp_val ix0 ?_; try dsimp only)
  | (with_reducible refine wp_val ix0L ?_; try dsimp only)
  | (with_reducible refine wp_val isi_F ?_; try dsimp only)
  | (refine wp_val rfl ?_; try dsimp only [List.set_cons_zero, List.set_cons_succ, wipeR, List.length_nil, List.nil_append])
  | (refine ⟨_, rfl, ?_⟩; try dsimp only)
  | (refine ⟨Nat.le_of_ble_eq_true rfl, ?_⟩; try dsimp only [List.set_cons_zero, List.set_cons_succ, wipeR, List.length_nil, List.nil_append])
  | refine ⟨fun _ => ?_, fun h => absurd h (by decide)⟩
  | refine ⟨fun h => absurd h (by decide), fun _ => ?_⟩
  | refine ⟨(rfl : isDct _ = true), ?_⟩
  | (refine ⟨nd0, ?_⟩; try dsimp only [List.set_cons_zero, List.set_cons_succ, wipeR, List.length_nil, List.nil_append])
  | (refine ⟨nd1 _, ?_⟩; try dsimp only [List.set_cons_zero, List.set_cons_succ, wipeR, List.length_nil, List.nil_append])
  | (refine ⟨nd01, ?_⟩; try dsimp only [List.set_cons_zero, List.set_cons_succ, wipeR, List.length_nil, List.nil_append])
  | (refine ⟨by decide, ?_⟩; try dsimp only [List.set_cons_zero, List.set_cons_succ, wipeR, List.length_nil, List.nil_append]))
local macro_rules | `(tactic| walk_at "st2") => `(tactic| first | (with_reducible refine ty_E ?_; walk_at "stE") | (with_reducible refine ty_S ?_; walk_at "stS") | (with_reducible refine ty_F ?_; walk_at "stF") | (with_reducible refine ty_I ?_; walk_at "stI") | (with_reducible refine ty_B ?_; walk_at "stB") | (with_reducible refine ty_A ?_; walk_at "stA") | walk_at "stR")
local macro_rules | `(tactic| walk_at "st") => `(tactic| first
  | ((with_reducible first | refine lf_var ?_ | refine lf_view ?_ | refine lf_sc ?_ | refine lf_anil ?_ | refine lf_views ?_ | refine lf_pre ?_ | refine lf_fin ?_ | refine lf_putb ?_ | refine lf_tod ?_ | refine lf_nx ?_ | refine lf_gn ?_ | refine lf_bys ?_); refine wp_val rfl ?_; try dsimp only [List.set_cons_zero, List.set_cons_succ, wipeR, List.length_nil, List.nil_append])
  | (with_reducible first | refine wp_acons ?_ | refine wp_op ?_ | refine wp_fz ?_ | refine wp_set ?_ | refine wp_seq ?_ | refine wp_call ?_ | refine wp_n ?_ | refine wp_bof ?_)
  | walk_at "st2")
end Nv
set_option Elab.async false
set_option linter.all false
set_option maxRecDepth 100000
set_option maxHeartbeats 4000000
namespace Nv
open PySem L2 Nv
local macro_rules | `(tactic| walk_at "stE") => `(tactic| with_reducible first | refine wp_mu ?_ | refine wp_sif ?_ | refine wp_callR ?_ | refine wp_tup ?_ | refine wp_isi ?_ | refine wp_app ?_ | refine wp_ext ?_ | refine wp_sl ?_ | refine wp_get2 ?_ | refine wp_sand ?_)
local macro_rules | `(tactic| walk_at "stS") => `(tactic| with_reducible first | refine wp_ret ?_ | refine wp_drop ?_ | refine wp_ifs ?_ | refine wp_put ?_ | refine wp_setix ?_ | refine wp_for ?_)
local macro_rules | `(tactic| walk_at "stF") => `(tactic| with_reducible first | refine wp_lst ?_ | refine wp_mt ?_ | refine wp_lc ?_ | refine wp_rev ?_ | refine wp_s2 ?_ | refine wp_dc ?_)
local macro_rules | `(tactic| walk_at "stI") => `(tactic| with_reducible first | refine wp_iof ?_ | refine wp_range1 ?_ | refine wp_enu ?_)
local macro_rules | `(tactic| walk_at "stB") => `(tactic| with_reducible first | refine wp_btru ?_ | refine wp_bnot ?_ | refine wp_band ?_ | refine wp_bor ?_)
local macro_rules | `(tactic| walk_at "stA") => `(tactic| with_reducible first | refine wp_perm ?_ | refine wp_star ?_)
local macro_rules | `(tactic| walk_at "stR") => `(tactic| first
  | with_reducible refine wp_mod (by omega) ?_
  | with_reducible refine wp_fdiv (by omega) ?_
  | with_reducible refine wp_mul (by omega) ?_
  | (with_reducible refine wp_val isi_T ?_; try dsimp only)
  | (with_reducible refine wp_val sl1 ?_; try dsimp only)
  | (with_reducible refine wp_val ix0 ?_; try dsimp only)
  | (with_reducible refine wp_val ix0L ?_; try dsimp only)
  | (with_reducible refine wp_val isi_F ?_; try dsimp only)
  | (refine wp_val rfl ?_; try dsimp only [List.set_cons_zero, List.set_cons_succ, wipeR, List.length_nil, List.nil_append])
  | (refine ⟨_, rfl, ?_⟩; try dsimp only)
  | (refine ⟨Nat.le_of_ble_eq_true rfl, ?_⟩; try dsimp only [List.set_cons_zero, List.set_cons_succ, wipeR, List.length_nil, List.nil_append])
  | refine ⟨fun _ => ?_, fun h => absurd h (by decide)⟩
  | refine ⟨fun h => absurd h (by decide), fun _ => ?_⟩
  | refine ⟨(rfl : isDct _ = true), ?_⟩
  | (refine ⟨nd0, ?_⟩; try dsimp only [List.set_cons_zero, List.set_cons_succ, wipeR, List.length_nil, List.nil_append])
  | (refine ⟨nd1 _, ?_⟩; try dsimp only [List.set_cons_zero, List.set_cons_succ, wipeR, List.length_nil, List.nil_append])
  | (refine ⟨nd01, ?_⟩; try dsimp only [List.set_cons_zero, List.set_cons_succ, wipeR, List.length_nil, List.nil_append])
  | (refine ⟨by decide, ?_⟩; try dsimp only [List.set_cons_zero, List.set_cons_succ, wipeR, List.length_nil, List.nil_append]))
local macro_rules | `(tactic| walk_at "st2") => `(tactic| first | (with_reducible refine ty_E ?_; walk_at "stE") | (with_reducible refine ty_S ?_; walk_at "stS") | (with_reducible refine ty_F ?_; walk_at "stF") | (with_reducible refine ty_I ?_; walk_at "stI") | (with_reducible refine ty_B ?_; walk_at "stB") | (with_reducible refine ty_A ?_; walk_at "stA") | walk_at "stR")
local macro_rules | `(tactic| walk_at "st") => `(tactic| first
  | ((with_reducible first | refine lf_var ?_ | refine lf_view ?_ | refine lf_sc ?_ | refine lf_anil ?_ | refine lf_views ?_ | refine lf_pre ?_ | refine lf_fin ?_ | refine lf_putb ?_ | refine lf_tod ?_ | refine lf_nx ?_ | refine lf_gn ?_ | refine lf_bys ?_); refine wp_val rfl ?_; try dsimp only [List.set_cons_zero, List.set_cons_succ, wipeR, List.length_nil, List.nil_append])
  | (with_reducible first | refine wp_acons ?_ | refine wp_op ?_ | refine wp_fz ?_ | refine wp_set ?_ | refine wp_seq ?_ | refine wp_call ?_ | refine wp_n ?_ | refine wp_bof ?_)
  | walk_at "st2")
/-! ### terms as a type of their own -/
inductive Tt where
  | v (x : Str)
  | a (w : Str) (ts : List Tt)
namespace Tt
theorem ind {P : Tt → Prop} (hv : ∀ x, P (.v x)) (ha : ∀ w ts, (∀ t ∈ ts, P t) → P (.a w ts)) : ∀ t, P t
  | .v x => hv x
  | .a w ts => ha w ts fun t _ => ind hv ha t
def sz : Tt → Nat
  | .v _ => 1
  | .a _ ts => 1 + (ts.map sz).sum
def mx (l : List Nat) : Nat := l.foldr max 0
def dp : Tt → Nat
  | .v _ => 1
  | .a _ ts => 1 + mx (ts.map dp)
def ar : Tt → Nat
  | .v _ => 0
  | .a _ ts => max ts.length (mx (ts.map ar))
def vo : Tt → List Str
  | .v x => [x]
  | .a _ ts => ts.flatMap vo
def wo : Tt → List Str
  | .v _ => []
  | .a w ts => w :: ts.flatMap wo
def sub (σ : Str → Tt) : Tt → Tt
  | .v x => σ x
  | .a w ts => .a w (ts.map (sub σ))
end Tt
theorem mx_le {l : List Nat} {n : Nat} : Tt.mx l ≤ n ↔ ∀ x ∈ l, x ≤ n := by
  induction l with
  | nil => simp [Tt.mx]
  | cons a l ih =>
    have : Tt.mx (a :: l) = max a (Tt.mx l) := rfl
    rw [this, Nat.max_le, ih]
    simp
namespace Tt
theorem dp_pos (t : Tt) : 1 ≤ t.dp := by cases t <;> rw [dp] <;> omega
theorem dp_a {w : Str} {ts : List Tt} {n : Nat} : (Tt.a w ts).dp ≤ n + 1 ↔ ∀ t ∈ ts, t.dp ≤ n := by
  rw [dp]
  have : 1 + mx (ts.map dp) ≤ n + 1 ↔ mx (ts.map dp) ≤ n := by omega
  rw [this, mx_le]
  simp
/-! #### filling -/
theorem sub_congr {σ τ : Str → Tt} {t : Tt} (h : ∀ x ∈ t.vo, σ x = τ x) : t.sub σ = t.sub τ := by
  induction t using ind with
  | hv y => rw [sub, sub]; exact h y (by rw [vo]; simp)
  | ha w ts ih =>
    rw [sub, sub]
    congr 1
    refine List.map_congr_left fun t ht => ih t ht fun x hx => h x ?_
    rw [vo]
    exact List.mem_flatMap.mpr ⟨t, ht, hx⟩
theorem flatMap_congr {A B : Type} {l : List A} {f g : A → List B} (h : ∀ x ∈ l, f x = g x) : l.flatMap f = l.flatMap g := by
  simp only [List.flatMap]
  rw [List.map_congr_left h]
theorem vo_sub {σ : Str → Tt} {t : Tt} : (t.sub σ).vo = t.vo.flatMap fun x => (σ x).vo := by
  induction t using ind with
  | hv y => rw [sub, vo]; simp
  | ha w ts ih =>
    rw [sub, vo, vo, List.flatMap_map, List.flatMap_assoc]
    exact flatMap_congr ih
theorem wo_sub {σ : Str → Tt} {t : Tt} {w : Str} : w ∈ (t.sub σ).wo ↔ w ∈ t.wo ∨ ∃ x ∈ t.vo, w ∈ (σ x).wo := by
  induction t using ind with
  | hv y => rw [sub, wo, vo]; simp
  | ha u ts ih =>
    rw [sub, wo, wo, vo, List.mem_cons, List.mem_cons, List.mem_flatMap, List.mem_flatMap]
    constructor
    · rintro (h | ⟨t, ht, h⟩)
      · exact .inl (.inl h)
      · obtain ⟨s, hs, rfl⟩ := List.mem_map.mp ht
        rcases (ih s hs).mp h with h | ⟨x, hx, h⟩
        · exact .inl (.inr ⟨s, hs, h⟩)
        · exact .inr ⟨x, List.mem_flatMap.mpr ⟨s, hs, hx⟩, h⟩
    · rintro ((h | ⟨s, hs, h⟩) | ⟨x, hx, h⟩)
      · exact .inl h
      · exact .inr ⟨_, List.mem_map_of_mem hs, (ih s hs).mpr (.inl h)⟩
      · obtain ⟨s, hs, hx⟩ := List.mem_flatMap.mp hx
        exact .inr ⟨_, List.mem_map_of_mem hs, (ih s hs).mpr (.inr ⟨x, hx, h⟩)⟩
theorem dp_sub_le {σ : Str → Tt} {k n : Nat} {t : Tt} (hn : t.dp ≤ n) (h : ∀ x ∈ t.vo, (σ x).dp ≤ k + 1) : (t.sub σ).dp ≤ n + k := by
  induction t using ind generalizing n with
  | hv y =>
    have := dp_pos (.v y)
    rw [sub]
    have := h y (by rw [vo]; simp)
    omega
  | ha w ts ih =>
    obtain ⟨m, rfl⟩ : ∃ m, n = m + 1 := ⟨n - 1, by have := dp_pos (.a w ts); omega⟩
    have hn := dp_a.mp hn
    rw [sub, show m + 1 + k = m + k + 1 by omega, dp_a]
    intro t ht
    obtain ⟨s, hs, rfl⟩ := List.mem_map.mp ht
    exact ih s hs (hn s hs) fun x hx => h x (by rw [vo]; exact List.mem_flatMap.mpr ⟨s, hs, hx⟩)
end Tt
/-- what can be said of a drawn term -/
structure Tr (X V : Str → Prop) (n : Nat) (t : Tt) : Prop where
  d : t.dp ≤ n
  v : ∀ x ∈ t.vo, V x
  w : ∀ w ∈ t.wo, X w
theorem Tr.mono {X V X' V' : Str → Prop} {n k : Nat} {t : Tt} (h : Tr X V n t) (hX : ∀ w, X w → X' w) (hV : ∀ x, V x → V' x) (hk : n ≤ k) : Tr X' V' k t := ⟨Nat.le_trans h.d hk, fun x hx => hV x (h.v x hx), fun w hw => hX w (h.w w hw)⟩
theorem Tr.sub {X V V' : Str → Prop} {n k : Nat} {σ : Str → Tt} {t : Tt} (h : Tr X V n t) (hσ : ∀ x, V x → Tr X V' (k + 1) (σ x)) : Tr X V' (n + k) (t.sub σ) :=
  ⟨Tt.dp_sub_le h.d fun x hx => (hσ x (h.v x hx)).d, fun x hx => by
    rw [Tt.vo_sub] at hx
    obtain ⟨y, hy, hx⟩ := List.mem_flatMap.mp hx
    exact (hσ y (h.v y hy)).v x hx, fun w hw => by
    rcases Tt.wo_sub.mp hw with hw | ⟨y, hy, hw⟩
    · exact h.w w hw
    · exact (hσ y (h.v y hy)).w w hw⟩
/-- a short text -/
def Sok (x : Str) : Prop := PyData.strOk x = true ∧ x.length ≤ 20
end Nv
set_option Elab.async false
set_option linter.all false
set_option maxRecDepth 100000
set_option maxHeartbeats 4000000
namespace Nv
open PySem L2 Nv
local macro_rules | `(tactic| walk_at "stE") => `(tactic| with_reducible first | refine wp_mu ?_ | refine wp_sif ?_ | refine wp_callR ?_ | refine wp_tup ?_ | refine wp_isi ?_ | refine wp_app ?_ | refine wp_ext ?_ | refine wp_sl ?_ | refine wp_get2 ?_ | refine wp_sand ?_)
local macro_rules | `(tactic| walk_at "stS") => `(tactic| with_reducible first | refine wp_ret ?_ | refine wp_drop ?_ | refine wp_ifs ?_ | refine wp_put ?_ | refine wp_setix ?_ | refine wp_for ?_)
local macro_rules | `(tactic| walk_at "stF") => `(tactic| with_reducible first | refine wp_lst ?_ | refine wp_mt ?_ | refine wp_lc ?_ | refine wp_rev ?_ | refine wp_s2 ?_ | refine wp_dc ?_)
local macro_rules | `(tactic| walk_at "stI") => `(tactic| with_reducible first | refine wp_iof ?_ | refine wp_range1 ?_ | refine wp_enu ?_)
local macro_rules | `(tactic| walk_at "stB") => `(tactic| with_reducible first | refine wp_btru ?_ | refine wp_bnot ?_ | refine wp_band ?_ | refine wp_bor ?_)
local macro_rules | `(tactic| walk_at "stA") => `(tactic| with_reducible first | refine wp_perm ?_ | refine wp_star ?_)
local macro_rules | `(tactic| walk_at "stR") => `(tactic| first
  | with_reducible refine wp_mod (by omega) ?_
  | with_reducible refine wp_fdiv (by omega) ?_
  | with_reducible refine wp_mul (by omega) ?_
  | (with_reducible refine wp_val isi_T ?_; try dsimp only)
  | (with_reducible refine wp_val sl1 ?_; try dsimp only)
  | (with_reducible refine wp_val ix0 ?_; try dsimp only)
  | (with_reducible refine wp_val ix0L ?_; try dsimp only)
  | (with_reducible refine wp_val isi_F ?_; try dsimp only)
  | (refine wp_val rfl ?_; try dsimp only [List.set_cons_zero, List.set_cons_succ, wipeR, List.length_nil, List.nil_append])
  | (refine ⟨_, rfl, ?_⟩; try dsimp only)
  | (refine ⟨Nat.le_of_ble_eq_true rfl, ?_⟩; try dsimp only [List.set_cons_zero, List.set_cons_succ, wipeR, List.length_nil, List.nil_append])
  | refine ⟨fun _ => ?_, fun h => absurd h (by decide)⟩
  | refine ⟨fun h => absurd h (by decide), fun _ => ?_⟩
  | refine ⟨(rfl : isDct _ = true), ?_⟩
  | (refine ⟨nd0, ?_⟩; try dsimp only [List.set_cons_zero, List.set_cons_succ, wipeR, List.length_nil, List.nil_append])
  | (refine ⟨nd1 _, ?_⟩; try dsimp only [List.set_cons_zero, List.set_cons_succ, wipeR, List.length_nil, List.nil_append])
  | (refine ⟨nd01, ?_⟩; try dsimp only [List.set_cons_zero, List.set_cons_succ, wipeR, List.length_nil, List.nil_append])
  | (refine ⟨by decide, ?_⟩; try dsimp only [List.set_cons_zero, List.set_cons_succ, wipeR, List.length_nil, List.nil_append]))
local macro_rules | `(tactic| walk_at "st2") => `(tactic| first | (with_reducible refine ty_E ?_; walk_at "stE") | (with_reducible refine ty_S ?_; walk_at "stS") | (with_reducible refine ty_F ?_; walk_at "stF") | (with_reducible refine ty_I ?_; walk_at "stI") | (with_reducible refine ty_B ?_; walk_at "stB") | (with_reducible refine ty_A ?_; walk_at "stA") | walk_at "stR")
local macro_rules | `(tactic| walk_at "st") => `(tactic| first
  | ((with_reducible first | refine lf_var ?_ | refine lf_view ?_ | refine lf_sc ?_ | refine lf_anil ?_ | refine lf_views ?_ | refine lf_pre ?_ | refine lf_fin ?_ | refine lf_putb ?_ | refine lf_tod ?_ | refine lf_nx ?_ | refine lf_gn ?_ | refine lf_bys ?_); refine wp_val rfl ?_; try dsimp only [List.set_cons_zero, List.set_cons_succ, wipeR, List.length_nil, List.nil_append])
  | (with_reducible first | refine wp_acons ?_ | refine wp_op ?_ | refine wp_fz ?_ | refine wp_set ?_ | refine wp_seq ?_ | refine wp_call ?_ | refine wp_n ?_ | refine wp_bof ?_)
  | walk_at "st2")
/-! ### data of terms: compared, looked for -/
theorem Tr.sok {X V : Str → Prop} {n : Nat} {t : Tt} (h : Tr X V n t) (hX : ∀ w, X w → Sok w) (hV : ∀ x, V x → Sok x) : Tr Sok Sok n t := h.mono hX hV (Nat.le_refl _)
/-! ### fills -/
abbrev Fil := List (Str × Tt)
def lk : Fil → Str → Option Tt
  | [], _ => none
  | (y, t) :: r, x => if y = x then some t else lk r x
def sg (f : Fil) (x : Str) : Tt := (lk f x).getD (.v x)
def pu (f : Fil) (x : Str) (t : Tt) : Fil := if (f.any fun p => decide (p.1 = x)) = true then f.map (fun p => if p.1 = x then (p.1, t) else p) else f ++ [(x, t)]
theorem lk_mem {f : Fil} {x : Str} {t : Tt} (h : lk f x = some t) : (x, t) ∈ f := by
  induction f with
  | nil => cases h
  | cons p f ih =>
    obtain ⟨y, s⟩ := p
    simp only [lk] at h
    split at h
    · rename_i e; subst e; cases h; exact List.mem_cons_self ..
    · exact List.mem_cons_of_mem _ (ih h)
theorem lk_none {f : Fil} {x : Str} : lk f x = none ↔ x ∉ f.map (·.1) := by
  induction f with
  | nil => simp [lk]
  | cons p f ih =>
    obtain ⟨y, s⟩ := p
    simp only [lk, List.map_cons, List.mem_cons, not_or]
    split
    · rename_i e; subst e; simp
    · rename_i e
      rw [ih]
      exact ⟨fun h => ⟨fun h' => e h'.symm, h⟩, fun h => h.2⟩
def mg (f g : Fil) : Fil := g.foldl (fun acc p => pu acc p.1 p.2) f
end Nv
set_option Elab.async false
set_option linter.all false
set_option maxRecDepth 100000
set_option maxHeartbeats 4000000
namespace Nv
open PySem L2 Nv
local macro_rules | `(tactic| walk_at "stE") => `(tactic| with_reducible first | refine wp_mu ?_ | refine wp_sif ?_ | refine wp_callR ?_ | refine wp_tup ?_ | refine wp_isi ?_ | refine wp_app ?_ | refine wp_ext ?_ | refine wp_sl ?_ | refine wp_get2 ?_ | refine wp_sand ?_)
local macro_rules | `(tactic| walk_at "stS") => `(tactic| with_reducible first | refine wp_ret ?_ | refine wp_drop ?_ | refine wp_ifs ?_ | refine wp_put ?_ | refine wp_setix ?_ | refine wp_for ?_)
local macro_rules | `(tactic| walk_at "stF") => `(tactic| with_reducible first | refine wp_lst ?_ | refine wp_mt ?_ | refine wp_lc ?_ | refine wp_rev ?_ | refine wp_s2 ?_ | refine wp_dc ?_)
local macro_rules | `(tactic| walk_at "stI") => `(tactic| with_reducible first | refine wp_iof ?_ | refine wp_range1 ?_ | refine wp_enu ?_)
local macro_rules | `(tactic| walk_at "stB") => `(tactic| with_reducible first | refine wp_btru ?_ | refine wp_bnot ?_ | refine wp_band ?_ | refine wp_bor ?_)
local macro_rules | `(tactic| walk_at "stA") => `(tactic| with_reducible first | refine wp_perm ?_ | refine wp_star ?_)
local macro_rules | `(tactic| walk_at "stR") => `(tactic| first
  | with_reducible refine wp_mod (by omega) ?_
  | with_reducible refine wp_fdiv (by omega) ?_
  | with_reducible refine wp_mul (by omega) ?_
  | (with_reducible refine wp_val isi_T ?_; try dsimp only)
  | (with_reducible refine wp_val sl1 ?_; try dsimp only)
  | (with_reducible refine wp_val ix0 ?_; try dsimp only)
  | (with_reducible refine wp_val ix0L ?_; try dsimp only)
  | (with_reducible refine wp_val isi_F ?_; try dsimp only)
  | (refine wp_val rfl ?_; try dsimp only [List.set_cons_zero, List.set_cons_succ, wipeR, List.length_nil, List.nil_append])
  | (refine ⟨_, rfl, ?_⟩; try dsimp only)
  | (refine ⟨Nat.le_of_ble_eq_true rfl, ?_⟩; try dsimp only [List.set_cons_zero, List.set_cons_succ, wipeR, List.length_nil, List.nil_append])
  | refine ⟨fun _ => ?_, fun h => absurd h (by decide)⟩
  | refine ⟨fun h => absurd h (by decide), fun _ => ?_⟩
  | refine ⟨(rfl : isDct _ = true), ?_⟩
  | (refine ⟨nd0, ?_⟩; try dsimp only [List.set_cons_zero, List.set_cons_succ, wipeR, List.length_nil, List.nil_append])
  | (refine ⟨nd1 _, ?_⟩; try dsimp only [List.set_cons_zero, List.set_cons_succ, wipeR, List.length_nil, List.nil_append])
  | (refine ⟨nd01, ?_⟩; try dsimp only [List.set_cons_zero, List.set_cons_succ, wipeR, List.length_nil, List.nil_append])
  | (refine ⟨by decide, ?_⟩; try dsimp only [List.set_cons_zero, List.set_cons_succ, wipeR, List.length_nil, List.nil_append]))
local macro_rules | `(tactic| walk_at "st2") => `(tactic| first | (with_reducible refine ty_E ?_; walk_at "stE") | (with_reducible refine ty_S ?_; walk_at "stS") | (with_reducible refine ty_F ?_; walk_at "stF") | (with_reducible refine ty_I ?_; walk_at "stI") | (with_reducible refine ty_B ?_; walk_at "stB") | (with_reducible refine ty_A ?_; walk_at "stA") | walk_at "stR")
local macro_rules | `(tactic| walk_at "st") => `(tactic| first
  | ((with_reducible first | refine lf_var ?_ | refine lf_view ?_ | refine lf_sc ?_ | refine lf_anil ?_ | refine lf_views ?_ | refine lf_pre ?_ | refine lf_fin ?_ | refine lf_putb ?_ | refine lf_tod ?_ | refine lf_nx ?_ | refine lf_gn ?_ | refine lf_bys ?_); refine wp_val rfl ?_; try dsimp only [List.set_cons_zero, List.set_cons_succ, wipeR, List.length_nil, List.nil_append])
  | (with_reducible first | refine wp_acons ?_ | refine wp_op ?_ | refine wp_fz ?_ | refine wp_set ?_ | refine wp_seq ?_ | refine wp_call ?_ | refine wp_n ?_ | refine wp_bof ?_)
  | walk_at "st2")
def vN (i : Int) : Str := "V" ++ Str.ofString (toString i)
def nm (ds : List D) : List (Key × D) := ds.zipIdx.map fun p => ((keyOf p.1).getD (.inl 0), .str (vN (p.2 : Nat)))
end Nv
set_option Elab.async false
set_option linter.all false
set_option maxRecDepth 100000
set_option maxHeartbeats 4000000
namespace Nv
open PySem L2 Nv
local macro_rules | `(tactic| walk_at "stE") => `(tactic| with_reducible first | refine wp_mu ?_ | refine wp_sif ?_ | refine wp_callR ?_ | refine wp_tup ?_ | refine wp_isi ?_ | refine wp_app ?_ | refine wp_ext ?_ | refine wp_sl ?_ | refine wp_get2 ?_ | refine wp_sand ?_)
local macro_rules | `(tactic| walk_at "stS") => `(tactic| with_reducible first | refine wp_ret ?_ | refine wp_drop ?_ | refine wp_ifs ?_ | refine wp_put ?_ | refine wp_setix ?_ | refine wp_for ?_)
local macro_rules | `(tactic| walk_at "stF") => `(tactic| with_reducible first | refine wp_lst ?_ | refine wp_mt ?_ | refine wp_lc ?_ | refine wp_rev ?_ | refine wp_s2 ?_ | refine wp_dc ?_)
local macro_rules | `(tactic| walk_at "stI") => `(tactic| with_reducible first | refine wp_iof ?_ | refine wp_range1 ?_ | refine wp_enu ?_)
local macro_rules | `(tactic| walk_at "stB") => `(tactic| with_reducible first | refine wp_btru ?_ | refine wp_bnot ?_ | refine wp_band ?_ | refine wp_bor ?_)
local macro_rules | `(tactic| walk_at "stA") => `(tactic| with_reducible first | refine wp_perm ?_ | refine wp_star ?_)
local macro_rules | `(tactic| walk_at "stR") => `(tactic| first
  | with_reducible refine wp_mod (by omega) ?_
  | with_reducible refine wp_fdiv (by omega) ?_
  | with_reducible refine wp_mul (by omega) ?_
  | (with_reducible refine wp_val isi_T ?_; try dsimp only)
  | (with_reducible refine wp_val sl1 ?_; try dsimp only)
  | (with_reducible refine wp_val ix0 ?_; try dsimp only)
  | (with_reducible refine wp_val ix0L ?_; try dsimp only)
  | (with_reducible refine wp_val isi_F ?_; try dsimp only)
  | (refine wp_val rfl ?_; try dsimp only [List.set_cons_zero, List.set_cons_succ, wipeR, List.length_nil, List.nil_append])
  | (refine ⟨_, rfl, ?_⟩; try dsimp only)
  | (refine ⟨Nat.le_of_ble_eq_true rfl, ?_⟩; try dsimp only [List.set_cons_zero, List.set_cons_succ, wipeR, List.length_nil, List.nil_append])
  | refine ⟨fun _ => ?_, fun h => absurd h (by decide)⟩
  | refine ⟨fun h => absurd h (by decide), fun _ => ?_⟩
  | refine ⟨(rfl : isDct _ = true), ?_⟩
  | (refine ⟨nd0, ?_⟩; try dsimp only [List.set_cons_zero, List.set_cons_succ, wipeR, List.length_nil, List.nil_append])
  | (refine ⟨nd1 _, ?_⟩; try dsimp only [List.set_cons_zero, List.set_cons_succ, wipeR, List.length_nil, List.nil_append])
  | (refine ⟨nd01, ?_⟩; try dsimp only [List.set_cons_zero, List.set_cons_succ, wipeR, List.length_nil, List.nil_append])
  | (refine ⟨by decide, ?_⟩; try dsimp only [List.set_cons_zero, List.set_cons_succ, wipeR, List.length_nil, List.nil_append]))
local macro_rules | `(tactic| walk_at "st2") => `(tactic| first | (with_reducible refine ty_E ?_; walk_at "stE") | (with_reducible refine ty_S ?_; walk_at "stS") | (with_reducible refine ty_F ?_; walk_at "stF") | (with_reducible refine ty_I ?_; walk_at "stI") | (with_reducible refine ty_B ?_; walk_at "stB") | (with_reducible refine ty_A ?_; walk_at "stA") | walk_at "stR")
local macro_rules | `(tactic| walk_at "st") => `(tactic| first
  | ((with_reducible first | refine lf_var ?_ | refine lf_view ?_ | refine lf_sc ?_ | refine lf_anil ?_ | refine lf_views ?_ | refine lf_pre ?_ | refine lf_fin ?_ | refine lf_putb ?_ | refine lf_tod ?_ | refine lf_nx ?_ | refine lf_gn ?_ | refine lf_bys ?_); refine wp_val rfl ?_; try dsimp only [List.set_cons_zero, List.set_cons_succ, wipeR, List.length_nil, List.nil_append])
  | (with_reducible first | refine wp_acons ?_ | refine wp_op ?_ | refine wp_fz ?_ | refine wp_set ?_ | refine wp_seq ?_ | refine wp_call ?_ | refine wp_n ?_ | refine wp_bof ?_)
  | walk_at "st2")
/-! ### the different things of a list, in order -/
open Classical in
noncomputable def ad {A : Type} (acc : List A) (x : A) : List A := if x ∈ acc then acc else acc ++ [x]
noncomputable def nb {A : Type} (l : List A) : List A := l.foldl ad []
/-! ### data equal to themselves -/
/-! ### the program's looks at terms -/
end Nv
set_option Elab.async false
set_option linter.all false
set_option maxRecDepth 100000
set_option maxHeartbeats 4000000
namespace Nv
open PySem L2 Nv
local macro_rules | `(tactic| walk_at "stE") => `(tactic| with_reducible first | refine wp_mu ?_ | refine wp_sif ?_ | refine wp_callR ?_ | refine wp_tup ?_ | refine wp_isi ?_ | refine wp_app ?_ | refine wp_ext ?_ | refine wp_sl ?_ | refine wp_get2 ?_ | refine wp_sand ?_)
local macro_rules | `(tactic| walk_at "stS") => `(tactic| with_reducible first | refine wp_ret ?_ | refine wp_drop ?_ | refine wp_ifs ?_ | refine wp_put ?_ | refine wp_setix ?_ | refine wp_for ?_)
local macro_rules | `(tactic| walk_at "stF") => `(tactic| with_reducible first | refine wp_lst ?_ | refine wp_mt ?_ | refine wp_lc ?_ | refine wp_rev ?_ | refine wp_s2 ?_ | refine wp_dc ?_)
local macro_rules | `(tactic| walk_at "stI") => `(tactic| with_reducible first | refine wp_iof ?_ | refine wp_range1 ?_ | refine wp_enu ?_)
local macro_rules | `(tactic| walk_at "stB") => `(tactic| with_reducible first | refine wp_btru ?_ | refine wp_bnot ?_ | refine wp_band ?_ | refine wp_bor ?_)
local macro_rules | `(tactic| walk_at "stA") => `(tactic| with_reducible first | refine wp_perm ?_ | refine wp_star ?_)
local macro_rules | `(tactic| walk_at "stR") => `(tactic| first
  | with_reducible refine wp_mod (by omega) ?_
  | with_reducible refine wp_fdiv (by omega) ?_
  | with_reducible refine wp_mul (by omega) ?_
  | (with_reducible refine wp_val isi_T ?_; try dsimp only)
  | (with_reducible refine wp_val sl1 ?_; try dsimp only)
  | (with_reducible refine wp_val ix0 ?_; try dsimp only)
  | (with_reducible refine wp_val ix0L ?_; try dsimp only)
  | (with_reducible refine wp_val isi_F ?_; try dsimp only)
  | (refine wp_val rfl ?_; try dsimp only [List.set_cons_zero, List.set_cons_succ, wipeR, List.length_nil, List.nil_append])
  | (refine ⟨_, rfl, ?_⟩; try dsimp only)
  | (refine ⟨Nat.le_of_ble_eq_true rfl, ?_⟩; try dsimp only [List.set_cons_zero, List.set_cons_succ, wipeR, List.length_nil, List.nil_append])
  | refine ⟨fun _ => ?_, fun h => absurd h (by decide)⟩
  | refine ⟨fun h => absurd h (by decide), fun _ => ?_⟩
  | refine ⟨(rfl : isDct _ = true), ?_⟩
  | (refine ⟨nd0, ?_⟩; try dsimp only [List.set_cons_zero, List.set_cons_succ, wipeR, List.length_nil, List.nil_append])
  | (refine ⟨nd1 _, ?_⟩; try dsimp only [List.set_cons_zero, List.set_cons_succ, wipeR, List.length_nil, List.nil_append])
  | (refine ⟨nd01, ?_⟩; try dsimp only [List.set_cons_zero, List.set_cons_succ, wipeR, List.length_nil, List.nil_append])
  | (refine ⟨by decide, ?_⟩; try dsimp only [List.set_cons_zero, List.set_cons_succ, wipeR, List.length_nil, List.nil_append]))
local macro_rules | `(tactic| walk_at "st2") => `(tactic| first | (with_reducible refine ty_E ?_; walk_at "stE") | (with_reducible refine ty_S ?_; walk_at "stS") | (with_reducible refine ty_F ?_; walk_at "stF") | (with_reducible refine ty_I ?_; walk_at "stI") | (with_reducible refine ty_B ?_; walk_at "stB") | (with_reducible refine ty_A ?_; walk_at "stA") | walk_at "stR")
local macro_rules | `(tactic| walk_at "st") => `(tactic| first
  | ((with_reducible first | refine lf_var ?_ | refine lf_view ?_ | refine lf_sc ?_ | refine lf_anil ?_ | refine lf_views ?_ | refine lf_pre ?_ | refine lf_fin ?_ | refine lf_putb ?_ | refine lf_tod ?_ | refine lf_nx ?_ | refine lf_gn ?_ | refine lf_bys ?_); refine wp_val rfl ?_; try dsimp only [List.set_cons_zero, List.set_cons_succ, wipeR, List.length_nil, List.nil_append])
  | (with_reducible first | refine wp_acons ?_ | refine wp_op ?_ | refine wp_fz ?_ | refine wp_set ?_ | refine wp_seq ?_ | refine wp_call ?_ | refine wp_n ?_ | refine wp_bof ?_)
  | walk_at "st2")
/-! ### from data to terms -/
/-! ### renaming -/
/-! ### the letters, just so -/
/-! ### fills as they are drawn -/
structure FilOk (X : Str → Prop) (lets : List Str) (k M : Nat) (g : Fil) : Prop where
  nd : (g.map (·.1)).Nodup
  key : ∀ p ∈ g, p.1 ∈ lets
  val : ∀ p ∈ g, Tr X Sok k p.2 ∧ p.2.sz ≤ M
theorem FilOk.nil {X : Str → Prop} {lets : List Str} {k M : Nat} : FilOk X lets k M [] := ⟨by simp, fun p h => (nomatch h), fun p h => (nomatch h)⟩
/-! ### loops over lists of things that stand for data -/
theorem wp_lcG {A : Type} {r : List Sl} {g : SG} {fe : SE} {Q : List D × List Cell → Prop} (E F : A → D) (ts : List A) (m : List Cell) (hz : ts.length ≤ sizeLine)
    (hs : ∀ t ∈ ts, wp (g (.val (E t)) r m) fun r1 => wp (fe r1 m) fun s => wp (toD s.1 s.2) fun x => x = (F t, m)) (hd : Q (ts.map F, m)) : wp (lcS g bYes fe r (ts.map E) [] m) Q := by
  refine wp_lcS (I := fun k acc m' => acc = (ts.take k).map F ∧ m' = m) _ 0 [] m ⟨by simp, rfl⟩ ?_ ?_
  · rintro i d acc m e ⟨rfl, rfl⟩
    rw [Nat.zero_add]
    rw [List.getElem?_map] at e
    cases e2 : ts[i]? with
    | none => rw [e2] at e; cases e
    | some t =>
      rw [e2] at e
      cases e
      obtain ⟨hi, ht⟩ := List.getElem?_eq_some_iff.mp e2
      refine wp_mono (hs t (ht ▸ List.getElem_mem hi)) fun r1 h1 => wp_ok ⟨fun _ => ?_, fun h => nomatch h⟩
      refine wp_mono h1 fun s h2 => wp_mono h2 ?_
      rintro _ rfl
      refine ⟨by rw [List.length_map, List.length_take]; omega, ?_, rfl⟩
      rw [List.take_succ, e2]; simp
  · rintro acc m ⟨rfl, rfl⟩
    rw [Nat.zero_add, List.length_map, List.take_length]
    exact hd
theorem wp_lcGi {A : Type} {r : List Sl} {g : SG} {ft : SB} {fe : SE} {Q : List D × List Cell → Prop} (E F : A → D) (p : A → Bool) (ts : List A) (m : List Cell) (hz : ts.length ≤ sizeLine)
    (hs : ∀ t ∈ ts, wp (g (.val (E t)) r m) fun r1 => wp (ft r1 m) fun b => b = (p t, m) ∧ (p t = true → wp (fe r1 m) fun s => wp (toD s.1 s.2) fun x => x = (F t, m))) (hd : Q ((ts.filter p).map F, m)) : wp (lcS g ft fe r (ts.map E) [] m) Q := by
  refine wp_lcS (I := fun k acc m' => acc = ((ts.take k).filter p).map F ∧ m' = m) _ 0 [] m ⟨by simp, rfl⟩ ?_ ?_
  · rintro i d acc m e ⟨rfl, rfl⟩
    rw [Nat.zero_add]
    rw [List.getElem?_map] at e
    cases e2 : ts[i]? with
    | none => rw [e2] at e; cases e
    | some t =>
      rw [e2] at e
      cases e
      obtain ⟨hi, ht⟩ := List.getElem?_eq_some_iff.mp e2
      refine wp_mono (hs t (ht ▸ List.getElem_mem hi)) fun r1 h1 => wp_mono h1 ?_
      rintro _ ⟨rfl, h2⟩
      have hlen : (((ts.take i).filter p).map F).length < sizeLine := by
        rw [List.length_map]
        have h1 := List.length_filter_le p (ts.take i)
        have h2 := List.length_take_le i ts
        omega
      refine ⟨fun hp => ?_, fun hp => ?_⟩
      · refine wp_mono (h2 hp) fun s h3 => wp_mono h3 ?_
        rintro _ rfl
        refine ⟨hlen, ?_, rfl⟩
        have hp : p t = true := hp
        rw [List.take_succ, e2, List.filter_append]; simp [List.filter_cons, hp]
      · refine ⟨?_, rfl⟩
        have hp : p t = false := hp
        rw [List.take_succ, e2, List.filter_append]; simp [List.filter_cons, hp]
  · rintro acc m ⟨rfl, rfl⟩
    rw [Nat.zero_add, List.length_map, List.take_length]
    exact hd
end Nv
set_option Elab.async false
set_option linter.all false
set_option maxRecDepth 100000
set_option maxHeartbeats 4000000
namespace Nv
open PySem L2 Nv
local macro_rules | `(tactic| walk_at "stE") => `(tactic| with_reducible first | refine wp_mu ?_ | refine wp_sif ?_ | refine wp_callR ?_ | refine wp_tup ?_ | refine wp_isi ?_ | refine wp_app ?_ | refine wp_ext ?_ | refine wp_sl ?_ | refine wp_get2 ?_ | refine wp_sand ?_)
local macro_rules | `(tactic| walk_at "stS") => `(tactic| with_reducible first | refine wp_ret ?_ | refine wp_drop ?_ | refine wp_ifs ?_ | refine wp_put ?_ | refine wp_setix ?_ | refine wp_for ?_)
local macro_rules | `(tactic| walk_at "stF") => `(tactic| with_reducible first | refine wp_lst ?_ | refine wp_mt ?_ | refine wp_lc ?_ | refine wp_rev ?_ | refine wp_s2 ?_ | refine wp_dc ?_)
local macro_rules | `(tactic| walk_at "stI") => `(tactic| with_reducible first | refine wp_iof ?_ | refine wp_range1 ?_ | refine wp_enu ?_)
local macro_rules | `(tactic| walk_at "stB") => `(tactic| with_reducible first | refine wp_btru ?_ | refine wp_bnot ?_ | refine wp_band ?_ | refine wp_bor ?_)
local macro_rules | `(tactic| walk_at "stA") => `(tactic| with_reducible first | refine wp_perm ?_ | refine wp_star ?_)
local macro_rules | `(tactic| walk_at "stR") => `(tactic| first
  | with_reducible refine wp_mod (by omega) ?_
  | with_reducible refine wp_fdiv (by omega) ?_
  | with_reducible refine wp_mul (by omega) ?_
  | (with_reducible refine wp_val isi_T ?_; try dsimp only)
  | (with_reducible refine wp_val sl1 ?_; try dsimp only)
  | (with_reducible refine wp_val ix0 ?_; try dsimp only)
  | (with_reducible refine wp_val ix0L ?_; try dsimp only)
  | (with_reducible refine wp_val isi_F ?_; try dsimp only)
  | (refine wp_val rfl ?_; try dsimp only [List.set_cons_zero, List.set_cons_succ, wipeR, List.length_nil, List.nil_append])
  | (refine ⟨_, rfl, ?_⟩; try dsimp only)
  | (refine ⟨Nat.le_of_ble_eq_true rfl, ?_⟩; try dsimp only [List.set_cons_zero, List.set_cons_succ, wipeR, List.length_nil, List.nil_append])
  | refine ⟨fun _ => ?_, fun h => absurd h (by decide)⟩
  | refine ⟨fun h => absurd h (by decide), fun _ => ?_⟩
  | refine ⟨(rfl : isDct _ = true), ?_⟩
  | (refine ⟨nd0, ?_⟩; try dsimp only [List.set_cons_zero, List.set_cons_succ, wipeR, List.length_nil, List.nil_append])
  | (refine ⟨nd1 _, ?_⟩; try dsimp only [List.set_cons_zero, List.set_cons_succ, wipeR, List.length_nil, List.nil_append])
  | (refine ⟨nd01, ?_⟩; try dsimp only [List.set_cons_zero, List.set_cons_succ, wipeR, List.length_nil, List.nil_append])
  | (refine ⟨by decide, ?_⟩; try dsimp only [List.set_cons_zero, List.set_cons_succ, wipeR, List.length_nil, List.nil_append]))
local macro_rules | `(tactic| walk_at "st2") => `(tactic| first | (with_reducible refine ty_E ?_; walk_at "stE") | (with_reducible refine ty_S ?_; walk_at "stS") | (with_reducible refine ty_F ?_; walk_at "stF") | (with_reducible refine ty_I ?_; walk_at "stI") | (with_reducible refine ty_B ?_; walk_at "stB") | (with_reducible refine ty_A ?_; walk_at "stA") | walk_at "stR")
local macro_rules | `(tactic| walk_at "st") => `(tactic| first
  | ((with_reducible first | refine lf_var ?_ | refine lf_view ?_ | refine lf_sc ?_ | refine lf_anil ?_ | refine lf_views ?_ | refine lf_pre ?_ | refine lf_fin ?_ | refine lf_putb ?_ | refine lf_tod ?_ | refine lf_nx ?_ | refine lf_gn ?_ | refine lf_bys ?_); refine wp_val rfl ?_; try dsimp only [List.set_cons_zero, List.set_cons_succ, wipeR, List.length_nil, List.nil_append])
  | (with_reducible first | refine wp_acons ?_ | refine wp_op ?_ | refine wp_fz ?_ | refine wp_set ?_ | refine wp_seq ?_ | refine wp_call ?_ | refine wp_n ?_ | refine wp_bof ?_)
  | walk_at "st2")
section
variable {r : List Sl} {m : List Cell}
theorem wp_chain {o1 o2 : D → D → Out D} {fa fb fc : SE} {Q : Sl × List Cell → Prop} (h : wp (fa r m) fun p => wp (fb r p.2) fun q => wp (view q.2 p.1) fun dx => wp (view q.2 q.1) fun dy => wp (o1 dx dy) fun d => ∃ b, d = .bl b ∧
    ((b = true → wp (fc r q.2) fun z => wp (view z.2 q.1) fun dy' => wp (view z.2 z.1) fun dz => wp (o2 dy' dz) fun e => Q (.val e, z.2)) ∧ (b = false → Q (.val (.bl false), q.2)))) : wp (sChain o1 o2 fa fb fc r m) Q := by
  obtain ⟨⟨x, m1⟩, e1, ⟨y, m2⟩, e2, dx, e3, dy, e4, d, e5, b, rfl, h1, h2⟩ := h
  refine wp_bind (wp_val e1 (wp_bind (wp_val e2 (wp_bind (wp_val e3 (wp_bind (wp_val e4 (wp_bind (wp_val e5 ?_)))))))))
  cases b with
  | false => exact wp_ok (h2 rfl)
  | true =>
    obtain ⟨⟨z, m3⟩, e6, dy', e7, dz, e8, e, e9, q⟩ := h1 rfl
    exact wp_bind (wp_val e6 (wp_bind (wp_val e7 (wp_bind (wp_val e8 (wp_bind (wp_val e9 (wp_ok q))))))))
theorem wp_sor {f g : SE} {Q : Sl × List Cell → Prop} (h : wp (bOf f r m) fun q => (q.1 = true → Q (.val (.bl true), q.2)) ∧ (q.1 = false → wp (g r q.2) Q)) : wp (sOr f g r m) Q := by
  obtain ⟨⟨b, m1⟩, e, h1, h2⟩ := h
  refine wp_bind (wp_val e ?_)
  cases b with
  | true => exact wp_ok (h1 rfl)
  | false => exact h2 rfl
theorem wp_asg {g : SG} {f : SE} {Q : Fl × List Sl × List Cell → Prop} (h : wp (f r m) fun q => wp (g q.1 r q.2) fun r1 => Q (.nx, r1, q.2)) : wp (sAsg g f r m) Q := by
  obtain ⟨⟨s, m1⟩, e, r1, e2, q⟩ := h
  exact wp_bind (wp_val e (wp_bind (wp_val e2 (wp_ok q))))
theorem wp_lock {i : Nat} {f : SS} {Q : Fl × List Sl × List Cell → Prop} (h : wp (keysAt i r m) fun q => wp (f r q.2) Q) : wp (sLock i f r m) Q := by
  obtain ⟨⟨ds, m1⟩, e, q⟩ := h
  exact wp_bind (wp_val e q)
theorem wp_neg {f : SE} {Q : Sl × List Cell → Prop} (h : wp (f r m) fun q => wp (view q.2 q.1) fun d => wp (dNeg d) fun x => Q (.val x, q.2)) : wp (sNeg f r m) Q := by
  obtain ⟨⟨s, m1⟩, e, d, e2, x, e3, q⟩ := h
  exact wp_bind (wp_val e (wp_bind (wp_val e2 (wp_bind (wp_val e3 (wp_ok q))))))
end
/-! ### what is known by reckoning -/
def okB (x : Out (D × List D)) (b : Bool) : Bool := match x with
  | .ok (.bl c, []) => c == b
  | _ => false
theorem okB_eq {x : Out (D × List D)} {b : Bool} (h : okB x b = true) : x = .ok (.bl b, []) := by
  unfold okB at h
  split at h
  · rw [beq_iff_eq] at h; rw [h]
  · cases h
/-! ### data that can be written, dicts and great numbers too -/
structure NicePX (n : Nat) (p : PyData) : Prop where
  sok : sokP p = true
  sho : p.showable = true
  lea : p.leavesShort 64 = true
  dep : p.depth ≤ n
def NiceX (n : Nat) (d : D) : Prop := ∃ p, d.py = some p ∧ NicePX n p
theorem NiceX.mono {n k : Nat} {d : D} (h : NiceX n d) (hk : n ≤ k) : NiceX k d := by
  obtain ⟨p, e, hp⟩ := h
  exact ⟨p, e, hp.sok, hp.sho, hp.lea, Nat.le_trans hp.dep hk⟩
theorem NiceX.all {n : Nat} : ∀ {ds : List D}, (∀ d ∈ ds, NiceX n d) → ∃ ps, pyAll ds = some ps ∧ sokPs ps = true ∧ PyData.showableAll ps = true ∧ PyData.leavesShortAll 64 ps = true ∧ PyData.depthAll ps ≤ n ∧ PyData.weightAll ps = wts ds
  | [], _ => ⟨[], rfl, rfl, rfl, rfl, Nat.zero_le _, rfl⟩
  | d :: ds, h => by
    obtain ⟨p, e, hp⟩ := h d (List.mem_cons_self ..)
    obtain ⟨ps, e2, h1, h2, h3, h4, h5⟩ := NiceX.all (ds := ds) fun x hx => h x (List.mem_cons_of_mem _ hx)
    refine ⟨p :: ps, by simp only [pyAll, e, e2], ?_, ?_, ?_, ?_, ?_⟩
    · simp only [sokPs, hp.sok, h1, Bool.and_self]
    · simp only [PyData.showableAll, hp.sho, h2, Bool.and_self]
    · simp only [PyData.leavesShortAll, hp.lea, h3, Bool.and_self]
    · simp only [PyData.depthAll]; have := hp.dep; omega
    · simp only [PyData.weightAll, wts, List.map_cons, List.sum_cons, h5, wt, e]
theorem NiceX.lst {n : Nat} {ds : List D} (h : ∀ d ∈ ds, NiceX n d) : NiceX (n + 1) (.lst ds) ∧ wt (.lst ds) = wts ds := by
  obtain ⟨ps, e, h1, h2, h3, h4, h5⟩ := NiceX.all h
  exact ⟨⟨.list ps, by simp only [D.py, e, Option.map_some], by simp only [sokP, h1], by simp only [PyData.showable, h2], by simp only [PyData.leavesShort, h3], by simp only [PyData.depth]; omega⟩, by simp only [wt, D.py, e, Option.map_some, PyData.weight, h5]⟩
theorem NiceX.tup {n : Nat} {ds : List D} (h : ∀ d ∈ ds, NiceX n d) : NiceX (n + 1) (.tup ds) ∧ wt (.tup ds) = wts ds := by
  obtain ⟨ps, e, h1, h2, h3, h4, h5⟩ := NiceX.all h
  exact ⟨⟨.tuple ps, by simp only [D.py, e, Option.map_some], by simp only [sokP, h1], by simp only [PyData.showable, h2], by simp only [PyData.leavesShort, h3], by simp only [PyData.depth]; omega⟩, by simp only [wt, D.py, e, Option.map_some, PyData.weight, h5]⟩
end Nv
set_option Elab.async false
set_option linter.all false
set_option maxRecDepth 100000
set_option maxHeartbeats 4000000
namespace Nv
open PySem PySem.Spec PyProof.Rows L2 HT
end Nv
set_option Elab.async false
set_option linter.all false
set_option maxRecDepth 100000
set_option maxHeartbeats 4000000
namespace Nv
open PySem PySem.Calls PyProof.Rows PyProof.V PySem.Spec PySem.W L2
end Nv
set_option Elab.async false
set_option linter.all false
set_option maxRecDepth 100000
set_option maxHeartbeats 4000000
namespace Nv
open PySem PySem.Spec PyProof.Rows L2
end Nv
set_option Elab.async false
set_option linter.all false
set_option maxRecDepth 100000
set_option maxHeartbeats 4000000
namespace Nv
open PySem PySem.Spec PyProof.Rows L2 RZ
section
variable {cl : Cl} {X : Cx}
/-! ### zip of two tuples -/
def zipD : List D → List D → List D
  | x :: xs, y :: ys => .tup [x, y] :: zipD xs ys
  | _, _ => []
def iZip (f : SA) : SI := fun r m => do
  let (ss, m1) ← f r m
  let (ds, m2) ← toDs ss m1
  match ds with
  | [.tup xs, .tup ys] => .ok (zipD xs ys, m2)
  | _ => .bad
/-! ### xs.pop(), xs.pop(0) -/
def sPop (fo : SE) : SE := fun r m => do
  let (o, m1) ← fo r m
  let (j, k, xs) ← cellL m1 o
  match xs.getLast? with
  | some x => .ok (.val x, m1.set j ⟨k, .lst xs.dropLast⟩)
  | none => .bad
theorem Reps.dropLast {T : Tab} {F : Hp} {ds : List D} {vs : List V} (h : Reps T F ds vs) : Reps T F ds.dropLast vs.dropLast := by
  rw [List.dropLast_eq_take, List.dropLast_eq_take, h.length]
  exact h.take _
def sPop0 (fo : SE) : SE := fun r m => do
  let (o, m1) ← fo r m
  let (j, k, xs) ← cellL m1 o
  match xs with
  | x :: ys => .ok (.val x, m1.set j ⟨k, .lst ys⟩)
  | [] => .bad
end
section
variable {r : List Sl} {m : List Cell}
theorem wp_zip {f : SA} {Q : List D × List Cell → Prop} (h : wp (f r m) fun q => wp (toDs q.1 q.2) fun p => ∃ xs ys, p.1 = [.tup xs, .tup ys] ∧ Q (zipD xs ys, p.2)) : wp (iZip f r m) Q := by
  obtain ⟨⟨ss, m1⟩, e1, ⟨ds, m2⟩, e2, xs, ys, rfl, q⟩ := h
  exact wp_bind (wp_val e1 (wp_bind (wp_val e2 (wp_ok q))))
theorem wp_pop {fo : SE} {Q : Sl × List Cell → Prop} (h : wp (fo r m) fun o => wp (cellL o.2 o.1) fun c => ∃ x ys, c.2.2 = ys ++ [x] ∧ Q (.val x, o.2.set c.1 ⟨c.2.1, .lst ys⟩)) : wp (sPop fo r m) Q := by
  obtain ⟨⟨o, m1⟩, e1, ⟨j, k, xs⟩, e2, x, ys, e, q⟩ := h
  refine wp_bind (wp_val e1 (wp_bind (wp_val e2 ?_)))
  have e : xs = ys ++ [x] := e
  subst e
  show wp (match (ys ++ [x]).getLast? with | some z => Out.ok (Sl.val z, m1.set j ⟨k, .lst (ys ++ [x]).dropLast⟩) | none => .bad) Q
  rw [List.getLast?_concat, List.dropLast_concat]
  exact wp_ok q
theorem wp_pop0 {fo : SE} {Q : Sl × List Cell → Prop} (h : wp (fo r m) fun o => wp (cellL o.2 o.1) fun c => ∃ x ys, c.2.2 = x :: ys ∧ Q (.val x, o.2.set c.1 ⟨c.2.1, .lst ys⟩)) : wp (sPop0 fo r m) Q := by
  obtain ⟨⟨o, m1⟩, e1, ⟨j, k, xs⟩, e2, x, ys, e, q⟩ := h
  cases e
  exact wp_bind (wp_val e1 (wp_bind (wp_val e2 (wp_ok q))))
end
end Nv
set_option Elab.async false
set_option linter.all false
set_option maxRecDepth 100000
set_option maxHeartbeats 4000000
namespace Nv
open PySem PySem.Spec PyProof.Rows L2
section
variable {cl : Cl} {X : Cx}
/-! ### a def that returns data, or a new object which its caller may change -/
abbrev SRO := List Sl → List Cell → Out (Bool × D × List Cell)
def oRet (f : SE) : SRO := fun r m => do
  let (s, m1) ← f r m
  match s with
  | .ref j => match m1[j]? with
    | some ⟨.own, d⟩ => .ok (true, d, m1)
    | _ => .bad
  | .val d => .ok (false, d, m1)
  | .un => .bad
def oSeq (f : SS) (g : SRO) : SRO := fun r m => do
  let (fl, r1, m1) ← f r m
  match fl with
  | .nx => g r1 m1
  | .rt d => .ok (false, d, m1)
  | _ => .bad
def sCallO (g : List D → Out (Bool × D)) (f : SA) : SE := fun r m => do
  let (ss, m1) ← f r m
  let (ds, m2) ← toDs ss m1
  let (b, d) ← g ds
  if b then .ok (.ref m2.length, m2 ++ [⟨.own, d⟩]) else .ok (.val d, m2)
variable {x : Str} {st : Stmt} {k : Nat} {ps ks : List Str} {g : List D → Out (Bool × D)} {p p2 pos : Pos} {e : Expr} {es : List Expr} {kws : List Keyword} {fa : SA}
end
section
variable {r : List Sl} {m : List Cell}
theorem wp_oret {f : SE} {Q : Bool × D × List Cell → Prop} (h : wp (f r m) fun q => (∃ d, q.1 = .val d ∧ Q (false, d, q.2)) ∨ ∃ j d, q.1 = .ref j ∧ q.2[j]? = some ⟨.own, d⟩ ∧ Q (true, d, q.2)) : wp (oRet f r m) Q := by
  obtain ⟨⟨s, m1⟩, e, h⟩ := h
  refine wp_bind (wp_val e ?_)
  rcases h with ⟨d, rfl, q⟩ | ⟨j, d, rfl, e2, q⟩
  · exact wp_ok q
  · simp only at e2 ⊢
    rw [e2]
    exact wp_ok q
theorem wp_oseq {f : SS} {g : SRO} {Q : Bool × D × List Cell → Prop} (h : wp (f r m) fun q => match q.1 with
    | .nx => wp (g q.2.1 q.2.2) Q
    | .rt d => Q (false, d, q.2.2)
    | _ => False) : wp (oSeq f g r m) Q := by
  obtain ⟨⟨fl, r1, m1⟩, e, h⟩ := h
  refine wp_bind (wp_val e ?_)
  cases fl with
  | nx => exact h
  | rt d => exact wp_ok h
  | bk => exact h.elim
  | ct => exact h.elim
theorem wp_callO {g : List D → Out (Bool × D)} {f : SA} {Q : Sl × List Cell → Prop} (h : wp (f r m) fun q => wp (toDs q.1 q.2) fun p => wp (g p.1) fun x => (x.1 = true → Q (.ref p.2.length, p.2 ++ [⟨.own, x.2⟩])) ∧ (x.1 = false → Q (.val x.2, p.2))) : wp (sCallO g f r m) Q := by
  obtain ⟨⟨ss, m1⟩, e1, ⟨ds, m2⟩, e2, ⟨b, d⟩, e3, h1, h2⟩ := h
  refine wp_bind (wp_val e1 (wp_bind (wp_val e2 (wp_bind (wp_val e3 ?_)))))
  cases b with
  | true => exact wp_ok (h1 rfl)
  | false => exact wp_ok (h2 rfl)
end
end Nv
set_option Elab.async false
set_option linter.all false
set_option maxRecDepth 100000
set_option maxHeartbeats 4000000
namespace Nv
open PySem PySem.Spec PyProof.Rows L2
end Nv
set_option Elab.async false
set_option linter.all false
set_option maxRecDepth 100000
set_option maxHeartbeats 4000000
namespace Nv
open PySem PySem.Calls PyProof.Rows PyProof.V PySem.Spec PySem.W L2 RZ
section
variable {prog : Program} {w : World} {A : Around} {E : Value → Shared → Prop} {s : Shared}
theorem wpAny_loadIfAlive {M : Model} {a : Addr} {Q : Option Obj → Shared → Prop} (h : Q (s.heap.get? a) s) : wpAny M A (loadIfAlive a) Q E s :=
  fun Γ p _ => by unfold loadIfAlive; rw [Sem.wp_loadIfAlive]; exact h
/-- a zip whose pair is out -/
abbrev IsZipF (h : Heap) (z TI TO : Addr) (f0 : Value) (b : Bool) : Prop :=
  h.get? z = some { cls := .type "zip", dict := none, data := .fields #[f0, .bool b, .bool false, .ref TI, .ref TO], slots := #[] }
theorem zipF_free {z TI TO a : Addr} {b : Bool} {oa : Obj} {Q : Bool → Shared → Prop} (hz : IsZipF s.heap z TI TO (rawInt a) b) (ha : s.heap.get? a = some oa)
    (h : ∀ h', IsZipF h' z TI TO (rawInt a) true → Heap.SameBut z s.heap h' → Q false { s with heap := h' }) : wpAny (model prog w) A (Builtin.SmallTypes.ownedTupleIsFree (.ref z)) Q E s := by
  unfold Builtin.SmallTypes.ownedTupleIsFree
  refine wpAny_bind (wpAny_field hz rfl (x := rawInt a) rfl ?_)
  show wpAny _ _ (loadIfAlive (a : Int).toNat >>= _) _ _ _
  refine wpAny_bind (wpAny_loadIfAlive ?_)
  rw [show ((a : Nat) : Int).toNat = a from rfl, ha]
  simp only [Option.isNone_some, Bool.false_eq_true, if_false]
  refine wpAny_bind (wpAny_field hz rfl (x := .bool b) rfl ?_)
  cases b with
  | true =>
    exact wpAny_pure (h _ hz ⟨rfl, fun _ _ => rfl⟩)
  | false =>
    show wpAny _ _ (setField (.ref z) 1 (.bool true) >>= _) _ _ _
    refine wpAny_bind (wpAny_setField_rec hz (by simp) fun h₁ hz₁ hs₁ => ?_)
    exact wpAny_pure (h _ hz₁ hs₁)
theorem zipF_next_item {z TI TO i1 i2 l1 l2 a : Addr} {b : Bool} {oa : Obj} {k1 k2 : Nat} {xs ys : Array Value} {x y : Value} {Q : Value → Shared → Prop} (D : ZipApart z TI TO i1 i2 l1 l2)
    (hz : IsZipF s.heap z TI TO (rawInt a) b) (ha : s.heap.get? a = some oa) (hTI : IsPair s.heap TI (.ref i1) (.ref i2))
    (h1 : s.heap.IsTupleIter i1 l1 k1) (h2 : s.heap.IsTupleIter i2 l2 k2) (hl1 : s.heap.IsTuple l1 xs) (hl2 : s.heap.IsTuple l2 ys) (hx : xs[k1]? = some x) (hy : ys[k2]? = some y)
    (hQ : ∀ h', IsZipF h' z TI TO (rawInt a) true → h'.IsTupleIter i1 l1 (k1 + 1) → h'.IsTupleIter i2 l2 (k2 + 1) → IsPair h' s.heap.objs.size x y → h'.objs.size = s.heap.objs.size + 1 →
      (∀ c o, c ≠ z → c ≠ i1 → c ≠ i2 → s.heap.get? c = some o → h'.get? c = some o) → Q (.ref s.heap.objs.size) { s with heap := h' }) :
    wpAny (model prog w) A (Builtin.«zip.__next__» ⟨[.ref z], []⟩) (fun fin s' => ∃ v, fin = .done (.ret v) ∧ Q v s') E s := by
  show wpAny _ _ (field (.ref z) 2 >>= _) _ _ _
  refine wpAny_bind (wpAny_field hz rfl (x := .bool false) rfl ?_)
  show wpAny _ _ (field (.ref z) 3 >>= _) _ _ _
  refine wpAny_bind (wpAny_field hz rfl (x := .ref TI) rfl ?_)
  refine wpAny_bind (wpAny_seqItems hTI rfl ?_)
  show wpAny _ _ (Builtin.SmallTypes.ownedTupleIsFree (.ref z) >>= _) _ _ _
  refine wpAny_bind (zipF_free hz ha fun h₁ hz₁ hs₁ => ?_)
  simp only [Bool.false_eq_true, if_false]
  refine wpAny_bind ?_
  rw [← Array.forIn_toList]
  simp only [List.forIn_cons, List.forIn_nil]
  refine wpAny_bind (wpAny_bind (wpAny_holding ?_))
  show wpAny _ _ (Builtin.SmallTypes.nextOf (.ref i1) >>= _) _ _ _
  refine wpAny_bind (nextOf_tuple_item (h1.extBut hs₁.extBut D.i1z) (hl1.extBut hs₁.extBut D.l1z) hx fun h₂ h1₂ hs₂ => wpAny_pure (wpAny_pure ?_))
  refine wpAny_bind (wpAny_bind (wpAny_holding ?_))
  show wpAny _ _ (Builtin.SmallTypes.nextOf (.ref i2) >>= _) _ _ _
  refine wpAny_bind (nextOf_tuple_item ((h2.extBut hs₁.extBut D.i2z).extBut hs₂.extBut D.i12.symm) ((hl2.extBut hs₁.extBut D.l2z).extBut hs₂.extBut D.l2i1) hy fun h₃ h2₃ hs₃ => wpAny_pure (wpAny_pure (wpAny_pure ?_)))
  show wpAny _ _ (newTuple [x, y] >>= _) _ _ _
  refine wpAny_bind (wpAny_newTuple ?_)
  have hsz : h₃.objs.size = s.heap.objs.size := by rw [hs₃.1, hs₂.1, hs₁.1]
  have hk₃ : ∀ c o, c ≠ z → c ≠ i1 → c ≠ i2 → s.heap.get? c = some o → h₃.get? c = some o := fun c o c1 c3 c4 e =>
    hs₃.extBut _ _ c4 (hs₂.extBut _ _ c3 (hs₁.extBut _ _ c1 e))
  have hz₃ : IsZipF h₃ z TI TO (rawInt a) true := hs₃.extBut _ _ D.i2z.symm (hs₂.extBut _ _ D.i1z.symm hz₁)
  have h1₃ : h₃.IsTupleIter i1 l1 (k1 + 1) := h1₂.extBut hs₃.extBut D.i12
  refine wpAny_pure ⟨_, rfl, ?_⟩
  show Q (.ref h₃.objs.size) _
  have hT := Heap.get?_push_size h₃ (o := { cls := .type "tuple", data := .seq #[x, y] }) rfl
  have hpz : (h₃.push { cls := .type "tuple", data := .seq #[x, y] }).objs.size = h₃.objs.size + 1 := Heap.size_push ..
  rw [hsz] at hT hpz ⊢
  exact hQ _ (Heap.get?_push_of_some _ hz₃) (h1₃.at fun o e => Heap.get?_push_of_some _ e) (h2₃.at fun o e => Heap.get?_push_of_some _ e) hT hpz fun c o c1 c3 c4 e => Heap.get?_push_of_some _ (hk₃ c o c1 c3 c4 e)
theorem zipF_next_end {z TI TO i1 i2 l1 l2 a : Addr} {b : Bool} {oa : Obj} {k1 k2 : Nat} {xs ys : Array Value} {Q : Fin → Shared → Prop} (hh : A.handled = none) (D : ZipApart z TI TO i1 i2 l1 l2)
    (hz : IsZipF s.heap z TI TO (rawInt a) b) (ha : s.heap.get? a = some oa) (hTI : IsPair s.heap TI (.ref i1) (.ref i2))
    (h1 : s.heap.IsTupleIter i1 l1 k1) (h2 : s.heap.IsTupleIter i2 l2 k2) (hl1 : s.heap.IsTuple l1 xs) (hl2 : s.heap.IsTuple l2 ys) (hend : xs[k1]? = none ∨ ys[k2]? = none)
    (hE : ∀ h' e, (∀ c o, c ≠ z → c ≠ i1 → c ≠ i2 → s.heap.get? c = some o → h'.get? c = some o) → (∃ o, h'.get? e = some o ∧ o.cls = .type "StopIteration") → E (.ref e) { s with heap := h' }) :
    wpAny (model prog w) A (Builtin.«zip.__next__» ⟨[.ref z], []⟩) Q E s := by
  show wpAny _ _ (field (.ref z) 2 >>= _) _ _ _
  refine wpAny_bind (wpAny_field hz rfl (x := .bool false) rfl ?_)
  show wpAny _ _ (field (.ref z) 3 >>= _) _ _ _
  refine wpAny_bind (wpAny_field hz rfl (x := .ref TI) rfl ?_)
  refine wpAny_bind (wpAny_seqItems hTI rfl ?_)
  show wpAny _ _ (Builtin.SmallTypes.ownedTupleIsFree (.ref z) >>= _) _ _ _
  refine wpAny_bind (zipF_free hz ha fun h₁ hz₁ hs₁ => ?_)
  simp only [Bool.false_eq_true, if_false]
  refine wpAny_bind ?_
  rw [← Array.forIn_toList]
  simp only [List.forIn_cons, List.forIn_nil]
  refine wpAny_bind (wpAny_bind (wpAny_holding ?_))
  show wpAny _ _ (Builtin.SmallTypes.nextOf (.ref i1) >>= _) _ _ _
  cases hx : xs[k1]? with
  | none =>
    refine wpAny_bind (nextOf_tuple_end hh (h1.extBut hs₁.extBut D.i1z) (hl1.extBut hs₁.extBut D.l1z) hx fun h₂ e hs₂ he => ?_)
    exact hE h₂ e (fun c o c1 c3 _ x => hs₂ _ _ c3 (hs₁.extBut _ _ c1 x)) he
  | some x =>
    have hy : ys[k2]? = none := by rcases hend with h | h; rw [hx] at h; cases h; exact h
    refine wpAny_bind (nextOf_tuple_item (h1.extBut hs₁.extBut D.i1z) (hl1.extBut hs₁.extBut D.l1z) hx fun h₂ h1₂ hs₂ => wpAny_pure (wpAny_pure ?_))
    refine wpAny_bind (wpAny_bind (wpAny_holding ?_))
    show wpAny _ _ (Builtin.SmallTypes.nextOf (.ref i2) >>= _) _ _ _
    refine wpAny_bind (nextOf_tuple_end hh ((h2.extBut hs₁.extBut D.i2z).extBut hs₂.extBut D.i12.symm) ((hl2.extBut hs₁.extBut D.l2z).extBut hs₂.extBut D.l2i1) hy fun h₄ e hs₄ he => ?_)
    exact hE h₄ e (fun c o c1 c3 c4 x => hs₄ _ _ c4 (hs₂.extBut _ _ c3 (hs₁.extBut _ _ c1 x))) he
/-- a zip of two tuples at its turn -/
structure ZAt (h : Heap) (z TI TO i1 i2 l1 l2 : Addr) (xs ys : Array Value) (i : Nat) : Prop where
  zip : IsZip h z TI TO .none ∨ ∃ (a : Addr) (b : Bool) (oa : Obj), IsZipF h z TI TO (rawInt a) b ∧ h.get? a = some oa ∧ oa.cls = .type "tuple"
  to : ∃ a b, IsPair h TO a b
  ti : IsPair h TI (.ref i1) (.ref i2)
  a1 : h.IsTupleIter i1 l1 i
  a2 : h.IsTupleIter i2 l2 i
  b1 : h.IsTuple l1 xs
  b2 : h.IsTuple l2 ys
theorem ZAt.item {z TI TO i1 i2 l1 l2 : Addr} {i : Nat} {xs ys : Array Value} {x y : Value} {Q : Option Value → Shared → Prop} (D : ZipApart z TI TO i1 i2 l1 l2)
    (Z : ZAt s.heap z TI TO i1 i2 l1 l2 xs ys i) (hx : xs[i]? = some x) (hy : ys[i]? = some y)
    (hQ : ∀ h', ZAt h' z TI TO i1 i2 l1 l2 xs ys (i + 1) → IsPair h' s.heap.objs.size x y → h'.objs.size = s.heap.objs.size + 1 →
      (∀ c o, c ≠ z → c ≠ TO → c ≠ i1 → c ≠ i2 → s.heap.get? c = some o → h'.get? c = some o) → Q (some (.ref s.heap.objs.size)) { s with heap := h' }) :
    wpAny (model prog w) A (pyNext (.ref z)) Q E s := by
  obtain ⟨ta, tb, hTO⟩ := Z.to
  rcases Z.zip with hz | ⟨a, b, oa, hz, ha, hc⟩
  · refine pyNext_zipT_item D hz Z.ti hTO Z.a1 Z.a2 Z.b1 Z.b2 hx hy fun h' z' TO' h1' h2' hT hsz hk => ?_
    refine hQ h' ⟨.inr ⟨_, false, _, z', hT, rfl⟩, ⟨_, _, TO'⟩, hk _ _ D.TIz D.TITO D.TIi1 D.TIi2 Z.ti, h1', h2', ?_, ?_⟩ hT hsz hk
    · obtain ⟨o, ho, q⟩ := Z.b1
      exact ⟨o, hk _ _ D.l1z D.l1TO D.l1i1 D.l1i2 ho, q⟩
    · obtain ⟨o, ho, q⟩ := Z.b2
      exact ⟨o, hk _ _ D.l2z D.l2TO D.l2i1 D.l2i2 ho, q⟩
  · have hT : s.TypeIs (.ref z) "zip" := ⟨_, hz, rfl⟩
    unfold pyNext
    refine wpAny_bind (wpAny_attempt (wpAny_callSpecial?_slot (name := Str.ofString "__next__") hT F.slot_zip_next
      (wpAny_call_entry F.slot_zip_next hT F.entry_zip_next
        (zipF_next_item D hz ha Z.ti Z.a1 Z.a2 Z.b1 Z.b2 hx hy fun h' z' h1' h2' hT' hsz hk => wpAny_pure ?_) (F.args_zip_next_1 _))))
    have haz : a ≠ z := fun e => by subst e; rw [hz] at ha; cases ha; simp at hc
    have hai : ∀ {j l : Addr} {k : Nat}, s.heap.IsTupleIter j l k → a ≠ j := fun hj e => by
      obtain ⟨o, ho, hc', _⟩ := hj
      subst e
      rw [ha] at ho; cases ho
      rw [hc] at hc'
      exact absurd hc' (by decide)
    refine hQ h' ⟨.inr ⟨a, true, oa, z', hk _ _ haz (hai Z.a1) (hai Z.a2) ha, hc⟩, ⟨_, _, hk _ _ D.TOz D.TOi1 D.TOi2 hTO⟩, hk _ _ D.TIz D.TIi1 D.TIi2 Z.ti, h1', h2', ?_, ?_⟩ hT' hsz fun c o c1 _ c3 c4 => hk c o c1 c3 c4
    · obtain ⟨o, ho, q⟩ := Z.b1
      exact ⟨o, hk _ _ D.l1z D.l1i1 D.l1i2 ho, q⟩
    · obtain ⟨o, ho, q⟩ := Z.b2
      exact ⟨o, hk _ _ D.l2z D.l2i1 D.l2i2 ho, q⟩
theorem ZAt.done {z TI TO i1 i2 l1 l2 : Addr} {i : Nat} {xs ys : Array Value} {Q : Option Value → Shared → Prop} (hh : A.handled = none) (D : ZipApart z TI TO i1 i2 l1 l2)
    (Z : ZAt s.heap z TI TO i1 i2 l1 l2 xs ys i) (hend : xs[i]? = none ∨ ys[i]? = none)
    (hQ : ∀ h', (∀ c o, c ≠ z → c ≠ TO → c ≠ i1 → c ≠ i2 → s.heap.get? c = some o → h'.get? c = some o) → Q none { s with heap := h' }) : wpAny (model prog w) A (pyNext (.ref z)) Q E s := by
  obtain ⟨ta, tb, hTO⟩ := Z.to
  rcases Z.zip with hz | ⟨a, b, oa, hz, ha, hc⟩
  · exact pyNext_zipT_end hh D hz Z.ti hTO Z.a1 Z.a2 Z.b1 Z.b2 hend hQ
  · have hT : s.TypeIs (.ref z) "zip" := ⟨_, hz, rfl⟩
    unfold pyNext
    refine wpAny_bind (wpAny_attempt (wpAny_callSpecial?_slot (name := Str.ofString "__next__") hT F.slot_zip_next
      (wpAny_call_entry F.slot_zip_next hT F.entry_zip_next (zipF_next_end hh D hz ha Z.ti Z.a1 Z.a2 Z.b1 Z.b2 hend fun h' e hk he => ?_) (F.args_zip_next_1 _))))
    obtain ⟨o, ho, hc⟩ := he
    refine wpAny_bind (wpAny_isInstance (T := "StopIteration") (b := true) ⟨o, ho, hc⟩ isSubtype_stop ?_)
    exact wpAny_pure (hQ _ fun c o c1 _ c3 c4 => hk c o c1 c3 c4)
end
end Nv
set_option Elab.async false
set_option linter.all false
set_option maxRecDepth 100000
set_option maxHeartbeats 4000000
namespace Nv
open PySem PySem.Calls PyProof.Rows PyProof.V PySem.Spec PySem.W L2 RZ
section
variable {X : Cx} {pins : List (Addr × Obj)} {σ : L2.St} {z TI TO i1 i2 l1 l2 S : Addr} {xs ys : Array Value} {vxs vys : List V} {n : Nat} {res : Value} {R : Result → Shared → Prop}
theorem ZAt.all {h h' : Heap} {i : Nat} (Z : ZAt h z TI TO i1 i2 l1 l2 xs ys i) (hk : ∀ c o, h.get? c = some o → h'.get? c = some o) : ZAt h' z TI TO i1 i2 l1 l2 xs ys i := by
  have it : ∀ {j l : Addr} {k : Nat}, h.IsTupleIter j l k → h'.IsTupleIter j l k := fun hj => by
    obtain ⟨o, ho, q⟩ := hj
    exact ⟨o, hk _ _ ho, q⟩
  have tp : ∀ {l : Addr} {xs : Array Value}, h.IsTuple l xs → h'.IsTuple l xs := fun hj => by
    obtain ⟨o, ho, q⟩ := hj
    exact ⟨o, hk _ _ ho, q⟩
  obtain ⟨ta, tb, hTO⟩ := Z.to
  refine ⟨?_, ⟨ta, tb, hk _ _ hTO⟩, hk _ _ Z.ti, it Z.a1, it Z.a2, tp Z.b1, tp Z.b2⟩
  rcases Z.zip with hz | ⟨a, b, oa, hz, ha, hc'⟩
  · exact .inl (hk _ _ hz)
  · exact .inr ⟨a, b, oa, hk _ _ hz, hk _ _ ha, hc'⟩
end
section
variable {cl : Cl} {X : Cx}
def fListZip (f : SA) : SF := fun r m => do
  let (ss, m1) ← f r m
  let (ds, m2) ← toDs ss m1
  match ds with
  | [.tup xs, .tup ys] => .ok (.lst (zipD xs ys), m2)
  | _ => .bad
end
end Nv
set_option Elab.async false
set_option linter.all false
set_option maxRecDepth 100000
set_option maxHeartbeats 4000000
namespace Nv
open PySem PySem.Spec PyProof.Rows L2
section
variable {cl : Cl} {X : Cx}
/-! ### for x in [a, b, c], the items perhaps to be changed -/
theorem SlRs.len {T : Tab} {W : Wo} : ∀ {ss : List Sl} {vs : List V}, SlRs T W ss vs → vs.length = ss.length
  | [], _, h => by cases h; rfl
  | _ :: _, _, ⟨v, r, e, z, t⟩ => by subst e; simp [SlRs.len t]
theorem SlRs.at {T : Tab} {W : Wo} : ∀ {ss : List Sl} {vs : List V} {i : Nat} {s : Sl}, SlRs T W ss vs → ss[i]? = some s → ∃ v, vs[i]? = some v ∧ SlR T W s v
  | [], _, _, _, _, h => by simp at h
  | _ :: _, _, 0, _, ⟨v, r, e, z, t⟩, h => by subst e; simp at h; subst h; exact ⟨v, rfl, z⟩
  | _ :: _, _, i + 1, _, ⟨v, r, e, z, t⟩, h => by
    subst e
    obtain ⟨u, e1, z1⟩ := SlRs.at t (i := i) (by simpa using h)
    exact ⟨u, by simpa using e1, z1⟩
/-! ### a, b = b, a -/
def sPar (i j : Nat) (fa : SA) : SS := fun r m => do
  let (ss, m1) ← fa r m
  match ss with
  | [s1, s2] => .ok (.nx, (r.set i s1).set j s2, m1)
  | _ => .bad
theorem ds_par {i j : Nat} {x y : Str} {a b : Expr} {fa : SA} {px py pt pos : Pos} {kt k2 pt2} (hc : X.calm = true) (hN : X.N.Nodup) (hi : X.N[i]? = some x) (hj : X.N[j]? = some y) (hij : i ≠ j)
    (hx : X.env.scope.names.lookup x = some .local) (hy : X.env.scope.names.lookup y = some .local) (ha : DA cl X [a, b] fa)
    (hw : swappedStores [.Tuple [.Name x px, .Name y py] kt pt] (.Tuple [a, b] k2 pt2) X.env = pure (some [x, y]) := by rfl)
    (hs : swapsWithSole [.Tuple [.Name x px, .Name y py] kt pt] (.Tuple [a, b] k2 pt2) pos.line X.env = pure false := by rfl) :
    DS cl X (.Assign [.Tuple [.Name x px, .Name y py] kt pt] (.Tuple [a, b] k2 pt2) pos) (sPar i j fa) := by
  obtain ⟨t, h1, h2⟩ := ha.ex
  refine ⟨_, ps_par hc hN hi hj hij hx hy h1 hw hs, fun W σ H r m R fl r' m' e Dn k => ?_⟩
  obtain ⟨⟨ss, m1⟩, e1, e⟩ := bind_ok e
  refine h2 W σ H r m R ss m1 e1 _ fun vs W1 H1 w1 R1 z1 => ?_
  have main : ∀ s1 s2, ss = [s1, s2] → fl = .nx → r' = (r.set i s1).set j s2 → m' = m1 → ∃ v w, vs = [v, w] ∧ Dn.nx ((σ.set i (some v)).set j (some w)) H1 := by
    rintro s1 s2 rfl rfl rfl rfl
    obtain ⟨v, rr, rfl, q1, w, rr2, rfl, q2, rfl⟩ := z1
    exact ⟨v, w, rfl, k W1 _ H1 w1 ((R1.set q1).set q2)⟩
  match ss, e, main with
  | [s1, s2], e, main =>
    cases e
    exact main s1 s2 rfl rfl rfl rfl
end
section
variable {r : List Sl} {m : List Cell}
theorem wp_par {i j : Nat} {fa : SA} {Q : Fl × List Sl × List Cell → Prop} (h : wp (fa r m) fun q => ∃ s1 s2, q.1 = [s1, s2] ∧ Q (.nx, (r.set i s1).set j s2, q.2)) : wp (sPar i j fa r m) Q := by
  obtain ⟨⟨ss, m1⟩, e, s1, s2, e2, h⟩ := h
  cases e2
  exact wp_bind (wp_val e (wp_ok h))
theorem wp_listZip {f : SA} {Q : D × List Cell → Prop} (h : wp (f r m) fun q => wp (toDs q.1 q.2) fun p => ∃ xs ys, p.1 = [.tup xs, .tup ys] ∧ Q (.lst (zipD xs ys), p.2)) : wp (fListZip f r m) Q := by
  obtain ⟨⟨ss, m1⟩, e1, ⟨ds, m2⟩, e2, xs, ys, e3, q⟩ := h
  cases e3
  exact wp_bind (wp_val e1 (wp_bind (wp_val e2 (wp_ok q))))
theorem wp_range2 {f : SA} {Q : List D × List Cell → Prop} (h : wp (f r m) fun s => wp (views s.2 s.1) fun ds => ∃ i j, ds = [.int i, .int j] ∧ (-(2 ^ 62) ≤ i ∧ i < 2 ^ 62 ∧ -(2 ^ 62) ≤ j ∧ j < 2 ^ 62) ∧ Q (rangeD i (j - i).toNat, s.2)) : wp (iRange2 f r m) Q := by
  obtain ⟨⟨s, m1⟩, e1, ds, e2, i, j, rfl, hj, q⟩ := h
  refine wp_bind (wp_val e1 (wp_bind (wp_val e2 ?_)))
  show wp (if _ then _ else _) Q
  rw [if_pos hj]
  exact wp_ok q
theorem wp_flock {i : Nat} {f : SF} {Q : D × List Cell → Prop} (h : wp (keysAt i r m) fun q => wp (f r q.2) Q) : wp (fLock i f r m) Q := by
  obtain ⟨⟨ds, m1⟩, e, q⟩ := h
  exact wp_bind (wp_val e q)
end
end Nv
set_option Elab.async false
set_option linter.all false
set_option maxRecDepth 100000
set_option maxHeartbeats 4000000
namespace PySem
open Sem (wp)
open SeqAt
end PySem
namespace Nv
open PySem PySem.Spec PyProof.Rows L2
section
variable {cl : Cl} {X : Cx}
/-! ### a dict is no text -/
/-! ### one way or another -/
theorem PE.or {e : Expr} {t t' : TE} (h : PE X e t) (h' : PE X e t') : PE X e (fun σ H Q => t σ H Q ∨ t' σ H Q) :=
  ⟨fun pins s σ H Q I q => q.elim (h.run pins s σ H Q I) (h'.run pins s σ H Q I)⟩
/-! ### a call that only looks: what is lent to it comes back as it was, if the answer holds no object -/
def sCallV (fl : List Bool) (g : Fn) (f : SA) : SE := fun r m => do
  let (ss, m1) ← f r m
  let (ps, m2) ← pre fl ss m1
  let as ← fin m2 ps
  if (refsOf ps) = [] then
    let (d, _) ← g as
    if flatD d = true then .ok (.val d, m1) else .bad
  else .bad
theorem wp_callV {fl : List Bool} {g : Fn} {f : SA} {r : List Sl} {m : List Cell} {Q : Sl × List Cell → Prop} (h : wp (f r m) fun q => wp (pre fl q.1 q.2) fun p => wp (fin p.2 p.1) fun as => refsOf p.1 = [] ∧ wp (g as) fun x => flatD x.1 = true ∧ Q (.val x.1, q.2)) : wp (sCallV fl g f r m) Q := by
  obtain ⟨⟨ss, m1⟩, e1, ⟨ps, m2⟩, e2, as, e3, nd, ⟨d, ds⟩, e4, hf, q⟩ := h
  refine wp_bind (wp_val e1 (wp_bind (wp_val e2 (wp_bind (wp_val e3 ?_)))))
  rw [if_pos nd]
  refine wp_bind (wp_val e4 ?_)
  show wp (if flatD d = true then _ else _) Q
  rw [if_pos hf]
  exact wp_ok q
end
end Nv
set_option Elab.async false
set_option linter.all false
set_option maxRecDepth 100000
set_option maxHeartbeats 4000000
namespace Nv
open PySem PySem.Spec PyProof.Rows L2
end Nv
set_option Elab.async false
set_option linter.all false
set_option maxRecDepth 100000
set_option maxHeartbeats 4000000
namespace PySem
open Sem (wp)
open SeqAt
end PySem
namespace Nv
open PySem PySem.Spec PyProof.Rows L2
end Nv
set_option Elab.async false
set_option linter.all false
set_option maxRecDepth 100000
set_option maxHeartbeats 4000000
namespace PySem
open Sem (wp)
open SeqAt
end PySem
namespace Nv
open PySem PySem.Spec PyProof.Rows L2
end Nv
set_option Elab.async false
set_option linter.all false
set_option maxRecDepth 100000
set_option maxHeartbeats 4000000
namespace Nv
open PySem PySem.Spec PyProof.Rows L2
/-! ### instances as data -/
def setF (f : Str) (x : D) : List (Str × D) → List (Str × D)
  | [] => [(f, x)]
  | (g, y) :: r => if g = f then (g, x) :: r else (g, y) :: setF f x r
theorem RepF.get {T : Tab} {F : Hp} : ∀ {fs : List (Str × D)} {gs : List (Str × V)} {f : Str} {d : D}, RepF T F fs gs → fs.lookup f = some d → ∃ v, gs.lookup f = some v ∧ Rep T F d v
  | [], _, _, _, _, e => by cases e
  | (g, x) :: r, _, f, d, h, e => by
    obtain ⟨v, q, rfl, z, t⟩ := h
    simp only [List.lookup] at e ⊢
    cases hb : f == g with
    | true =>
      rw [hb] at e
      cases e
      exact ⟨v, rfl, z⟩
    | false =>
      rw [hb] at e
      exact RepF.get t e
theorem RepF.none_of {T : Tab} {F : Hp} : ∀ {fs : List (Str × D)} {gs : List (Str × V)} {f : Str}, RepF T F fs gs → fs.lookup f = none → gs.lookup f = none
  | [], _, _, h, _ => by cases h; rfl
  | (g, x) :: r, _, f, h, e => by
    obtain ⟨v, q, rfl, z, t⟩ := h
    simp only [List.lookup] at e ⊢
    cases hb : f == g with
    | true => rw [hb] at e; cases e
    | false => rw [hb] at e; exact RepF.none_of t e
theorem RepF.len {T : Tab} {F : Hp} : ∀ {fs : List (Str × D)} {gs : List (Str × V)}, RepF T F fs gs → gs.length = fs.length
  | [], _, h => by cases h; rfl
  | (g, x) :: r, _, h => by
    obtain ⟨v, q, rfl, z, t⟩ := h
    simp [RepF.len t]
theorem ShV.ins {T : Tab} {F H : Hp} {c : Nat} {fs : List (Str × D)} {v : V} (le : Le F H) (h : ShV T F H (.ins c fs) v) : ∃ a dx gs, v = .ref a ∧ H a = some (.ins (T.cls c) dx gs) ∧ RepF T F fs gs := by
  rcases h with h | ⟨p, rfl, dx, gs, e, r⟩
  · simp only [Rep] at h
    obtain ⟨a, dx, gs, rfl, s, r⟩ := h
    rcases le _ _ s with q | ⟨⟨_, q⟩, _⟩
    · exact ⟨a, dx, gs, rfl, q, r⟩
    · cases q
  · exact ⟨p, dx, gs, rfl, e, r⟩
/-- what it returns -/
def callD (g : Fn) (ds : List D) : Out D := do
  let (d, bs) ← g (ds.map .v)
  match bs with
  | [] => .ok d
  | _ => .bad
section
variable {cl : Cl} {X : Cx} {o e value : Expr} {es : List Expr} {f x : Str} {pos pos' apos p : Pos} {cs : List Nat} {fo fv : SE} {fa : SA}
/-! ### fields -/
def sAtt (cs : List Nat) (f : Str) (fo : SE) : SE := fun r m => do
  let (o, m1) ← fo r m
  let d ← view m1 o
  match d with
  | .ins c fs => if c ∈ cs then (match fs.lookup f with
    | some x => .ok (.val x, m1)
    | none => .bad) else .bad
  | _ => .bad
/-- o.f = e -/
def sStore (cs : List Nat) (f : Str) (fo fv : SE) : SS := fun r m => do
  let (s, m1) ← fv r m
  let (o, m2) ← fo r m1
  let (x, m3) ← toD s m2
  match o with
  | .ref j => (match m3[j]? with
    | some ⟨.frz, _⟩ => .bad
    | some ⟨.opn _ _, _⟩ => .bad
    | some ⟨k, .ins c fs⟩ => if c ∈ cs ∧ fs.length < 1000 then .ok (.nx, r, m3.set j ⟨k, .ins c (setF f x fs)⟩) else .bad
    | _ => .bad)
  | _ => .bad
end
theorem RoomG.make {k : Nat} {A : Around} (r : RoomG (k + 1) A) (C : Addr) (us : List Value) (kw : List (Str × Value)) : RoomG k (A.under (.builtin "type.__call__" ⟨.ref C :: us, kw⟩)) :=
  ⟨r.room.make C us kw, by
    have := r.gd
    first | exact this | (simp [Around.under, Code.weight, Code.isCreation, Code.isGuard, Code.isCaller, Code.frames, Code.isFrame, guardIds]; exact this)⟩
end Nv
set_option Elab.async false
set_option linter.all false
set_option maxRecDepth 100000
set_option maxHeartbeats 4000000
namespace Nv
open PySem PySem.Spec PyProof.Rows L2
/-! ### properties, methods -/
section
variable {cl : Cl} {X : Cx} {o e value : Expr} {es : List Expr} {f x mn : Str} {pos pos' apos p : Pos} {cs : List Nat} {fo fv : SE} {fa : SA} {k : Nat} {fd : FuncData} {ps : List Str} {g : Fn} {ga pa : Addr}
def sProp (cs : List Nat) (g : Fn) (fo : SE) : SE := fun r m => do
  let (o, m1) ← fo r m
  let (d, m2) ← toD o m1
  match d with
  | .ins c fs => if c ∈ cs then (do
    let x ← callD g [.ins c fs]
    .ok (.val x, m2)) else .bad
  | _ => .bad
end
end Nv
set_option Elab.async false
set_option linter.all false
set_option maxRecDepth 100000
set_option maxHeartbeats 4000000
namespace Nv
open PySem PySem.Spec PyProof.Rows L2
/-! ### f(.., **d), d an empty dict: at the model's level -/
end Nv
set_option Elab.async false
set_option linter.all false
set_option maxRecDepth 100000
set_option maxHeartbeats 4000000
namespace Nv
open PySem PySem.Spec PyProof.Rows L2
/-! ### making an instance -/
/-- from the class, the arguments behind self and the keywords to the attributes -/
abbrev InitF := Nat → List D → List (Str × D) → Out (List (Str × D))
structure KwR (kvs : List (Str × V)) (kw : List (Str × Value)) : Prop where
  nm : kvs.map (·.1) = kw.map (·.1)
  vl : Vals (kvs.map (·.2)) (kw.map (·.2))
theorem KwR.nil : KwR [] [] := ⟨rfl, .nil⟩
section
variable {cl : Cl} {X : Cx} {e e3 fe : Expr} {es : List Expr} {x : Str} {pos p kp : Pos} {cs : List Nat} {ff fk : SE} {fa : SA} {k c : Nat} {f : Addr} {g : InitF}
/-- C(e, ..) -/
def sNew (c : Nat) (g : InitF) (fa : SA) : SE := fun r m => do
  let (ss, m1) ← fa r m
  let (ds, m2) ← toDs ss m1
  let fs ← g c ds []
  .ok (.val (.ins c fs), m2)
def emptyK : D → Out Unit
  | .dct [] => .ok ()
  | _ => .bad
/-- f(e, .., *.., **d), f a class, d empty -/
def sNewV (cs : List Nat) (g : InitF) (ff : SE) (fa : SA) (fk : SE) : SE := fun r m => do
  let (o, m0) ← ff r m
  match o with
  | .val (.cls c) => if c ∈ cs then (do
    let (ss, m1) ← fa r m0
    let (kd, m2) ← fk r m1
    let (dk, m3) ← toD kd m2
    let _ ← emptyK dk
    let (ds, m4) ← toDs ss m3
    let fs ← g c ds []
    .ok (.val (.ins c fs), m4)) else .bad
  | _ => .bad
end
end Nv
set_option Elab.async false
set_option linter.all false
set_option maxRecDepth 100000
set_option maxHeartbeats 4000000
namespace Nv
open PySem PySem.Spec PyProof.Rows L2
/-! ### def __init__(self, a, .., *v, **d), called without keywords -/
theorem Reps.split {T : Tab} {F : Hp} : ∀ (n : Nat) {ds : List D} {vs : List V}, Reps T F ds vs → Reps T F (ds.take n) (vs.take n) ∧ Reps T F (ds.drop n) (vs.drop n)
  | 0, _, _, h => ⟨rfl, h⟩
  | _ + 1, [], _, h => by cases h; exact ⟨rfl, rfl⟩
  | n + 1, d :: ds, _, h => by
    obtain ⟨v, r, rfl, z, t⟩ := h
    obtain ⟨a, b⟩ := Reps.split n t
    exact ⟨⟨v, _, rfl, z, a⟩, b⟩
end Nv
set_option Elab.async false
set_option linter.all false
set_option maxRecDepth 100000
set_option maxHeartbeats 4000000
namespace Nv
open PySem PySem.Spec PyProof.Rows L2
/-! ### methods and classmethods, whatever the def's promise is -/
abbrev GS := List D → List Cell → Out (Sl × List Cell)
def gsD (g : Fn) : GS := fun ds m => do
  let d ← callD g ds
  .ok (.val d, m)
def gsO (g : List D → Out (Bool × D)) : GS := fun ds m => do
  let (b, d) ← g ds
  if b then .ok (.ref m.length, m ++ [⟨.own, d⟩]) else .ok (.val d, m)
section
variable {cl : Cl} {X : Cx} {o e value : Expr} {es : List Expr} {f x mn qual : Str} {st : Stmt} {kws : List Keyword} {pos pos' apos p : Pos} {cs : List Nat} {fo fv : SE} {fa : SA} {k c n : Nat} {fd : FuncData} {ps ks : List Str} {gs : GS} {ga pa : Addr} {sp : Sp}
def sMethG (cs : List Nat) (mn : Str) (n : Nat) (gs : GS) (fo : SE) (fa : SA) : SE := fun r m => do
  let (o, m1) ← fo r m
  let (d, m2) ← toD o m1
  match d with
  | .ins c fs => if c ∈ cs ∧ fs.lookup mn = none then (do
    let (ss, m3) ← fa r m2
    let (ds, m4) ← toDs ss m3
    if ds.length + 1 = n then gs (.ins c fs :: ds) m4 else .bad) else .bad
  | _ => .bad
theorem da_perm {fa : SA} {tk : TA} (perm : List Nat) (nk : Nat)
    (h2 : ∀ W σ H r m, Rl ⟨X.K, cl⟩ W σ H r m → ∀ ss m', fa r m = .ok (ss, m') → ∀ Q : List V → Hp → Prop, (∀ vs W' H', Stp W H W' H' → Rl ⟨X.K, cl⟩ W' σ H' r m' → SlRs ⟨X.K, cl⟩ W' ss vs → Q vs H') → tk σ H Q) :
    ∀ W σ H r m, Rl ⟨X.K, cl⟩ W σ H r m → ∀ ss m', aPerm nk perm fa r m = .ok (ss, m') → ∀ Q : List V → Hp → Prop, (∀ vs W' H', Stp W H W' H' → Rl ⟨X.K, cl⟩ W' σ H' r m' → SlRs ⟨X.K, cl⟩ W' ss vs → Q vs H') →
      tk σ H fun vs H1 => vs.length = nk ∧ Q (permL perm vs) H1 := by
  intro W σ H r m R ss m' e Q k
  obtain ⟨⟨ss0, m0⟩, e0, e1⟩ := bind_ok e
  obtain ⟨hl, e1⟩ := ite_ok e1
  cases e1
  exact h2 W σ H r m R ss0 _ e0 _ fun vs W1 H1 w1 R1 z1 => ⟨by rw [z1.length]; exact hl, k _ W1 H1 w1 R1 (z1.perm perm)⟩
/-! ### classmethods, called on the class -/
def sCm (c : Nat) (n : Nat) (gs : GS) (fo : SE) (fa : SA) : SE := fun r m => do
  let (o, m1) ← fo r m
  match o with
  | .val (.cls c') => if c' = c then (do
    let (ss, m3) ← fa r m1
    let (ds, m4) ← toDs ss m3
    if ds.length + 1 = n then gs (.cls c :: ds) m4 else .bad) else .bad
  | _ => .bad
end
end Nv
set_option Elab.async false
set_option linter.all false
set_option maxRecDepth 100000
set_option maxHeartbeats 4000000
namespace Nv
open PySem L2
section
variable {cl : Cl} {X : Cx}
/-! ### a comprehension of two clauses -/
def tIt (T : Tab) (f : SI) : TI := fun σ H R => ∃ W r m ds m', Rl T W σ H r m ∧ f r m = .ok (ds, m') ∧ ∀ J W' H', Stp W H W' H' → Rl T W' σ H' r m' → ItOk T J W'.F H' ds → R J H'
theorem DI.uni {tg it : Expr} {f : SI} (h : DI cl X tg it f) : PI X tg it (tIt ⟨X.K, cl⟩ f) := by
  obtain ⟨t, h1, h2⟩ := h.ex
  refine ⟨fun pins s σ H R I h => ?_⟩
  obtain ⟨W, r, m, ds, m', Rr, e, k⟩ := h
  exact h1.run pins s σ H R I (h2 W σ H r m Rr ds m' e R k)
def lc2S (vs1 : List Nat) (g : SG) (ft : SB) (f1 : SI) (g1 : SG) (ft1 : SB) (fe : SE) (r : List Sl) : List D → List D → List Cell → Out (List D × List Cell)
  | [], acc, m => .ok (acc, m)
  | d :: ds, acc, m => do
    let r1 ← g (.val d) r m
    let (b, m1) ← ft r1 m
    if b then
      let (ys, m2) ← f1 r1 m1
      let (acc1, m3) ← lcS g1 ft1 fe (wipeR r1 vs1) ys acc m2
      lc2S vs1 g ft f1 g1 ft1 fe r ds acc1 m3
    else lc2S vs1 g ft f1 g1 ft1 fe r ds acc m1
def fLc2 (vs vs1 : List Nat) (f : SI) (g : SG) (ft : SB) (f1 : SI) (g1 : SG) (ft1 : SB) (fe : SE) : SF := fun r m => do
  let (ds, m1) ← f r m
  let (xs, m2) ← lc2S vs1 g ft f1 g1 ft1 fe (wipeR r vs) ds [] m1
  .ok (.lst xs, m2)
end
end Nv
set_option Elab.async false
set_option linter.all false
set_option maxRecDepth 100000
set_option maxHeartbeats 4000000
namespace Nv
open PySem PySem.Spec PyProof.Rows L2
/-! ### what a head tells of classes -/
/-- the classes' addresses, by the names that the module gives them -/
def clOf (names : List Str) (mg : Str → Option Value) : Cl := fun c => match names[c]? with
  | some x => match mg x with
    | some (.ref a) => a
    | _ => 0
  | none => 0
theorem clOf_at {names : List Str} {mg : Str → Option Value} {c : Nat} {x : Str} {a : Addr} (h : names[c]? = some x) (hm : mg x = some (.ref a)) : clOf names mg c = a := by
  unfold clOf
  rw [h]
  simp only [hm]
structure MetAt (K : PySem.W.Frag) (mn qual : Str) (st : Stmt) (f : Addr) : Prop where
  ex : ∃ (oc : Value) (od : Option Addr) (kV dc pm : Value) (an : Option Addr) (cd ct : Value) (sl : Array (Option Value)),
    K.lookup f = some ⟨oc, od, .func (PySem.W.fnOf mn qual (defArgs st) (defBody st) (defScope st) .none kV dc pm an cd ct), sl⟩ ∧ PySem.W.codeIn K cd qual = true ∧ PySem.W.keepIn K (.ref f) = true
theorem mkMet {K : PySem.W.Frag} {mn qual : Str} {st : Stmt} {f : Addr} {oc : Value} {od : Option Addr} {kV dc pm : Value} {an : Option Addr} {cd ct : Value} {sl : Array (Option Value)}
    (l : K.lookup f = some ⟨oc, od, .func (PySem.W.fnOf mn qual (defArgs st) (defBody st) (defScope st) .none kV dc pm an cd ct), sl⟩) (c : PySem.W.codeIn K cd qual = true) (k : PySem.W.keepIn K (.ref f) = true) : MetAt K mn qual st f :=
  ⟨oc, od, kV, dc, pm, an, cd, ct, sl, l, c, k⟩
theorem MetAt.fn {K : PySem.W.Frag} {mn qual : Str} {st : Stmt} {f : Addr} (D : MetAt K mn qual st f) : ∃ fd : FuncData, Fun K mn qual st f fd := by
  obtain ⟨oc, od, kV, dc, pm, an, cd, ct, sl, l, c, k⟩ := D.ex
  exact ⟨_, fun_mk l c k⟩
end Nv
set_option Elab.async false
set_option linter.all false
set_option maxRecDepth 100000
set_option maxHeartbeats 4000000
namespace Nv
open PySem PySem.Spec PyProof.Rows L2
end Nv
set_option Elab.async false
set_option linter.all false
set_option maxRecDepth 100000
set_option maxHeartbeats 4000000
namespace Nv
open PySem L2 Nv
local macro_rules | `(tactic| walk_at "stE") => `(tactic| with_reducible first | refine wp_mu ?_ | refine wp_sif ?_ | refine wp_callR ?_ | refine wp_tup ?_ | refine wp_isi ?_ | refine wp_app ?_ | refine wp_ext ?_ | refine wp_sl ?_ | refine wp_get2 ?_ | refine wp_sand ?_ | refine wp_chain ?_ | refine wp_sor ?_ | refine wp_neg ?_ | refine wp_pop ?_ | refine wp_pop0 ?_ | refine wp_callO ?_)
local macro_rules | `(tactic| walk_at "stS") => `(tactic| with_reducible first | refine wp_ret ?_ | refine wp_drop ?_ | refine wp_ifs ?_ | refine wp_put ?_ | refine wp_setix ?_ | refine wp_for ?_ | refine wp_asg ?_ | refine wp_lock ?_)
local macro_rules | `(tactic| walk_at "stF") => `(tactic| with_reducible first | refine wp_lst ?_ | refine wp_mt ?_ | refine wp_lc ?_ | refine wp_rev ?_ | refine wp_s2 ?_ | refine wp_dc ?_)
local macro_rules | `(tactic| walk_at "stI") => `(tactic| with_reducible first | refine wp_iof ?_ | refine wp_range1 ?_ | refine wp_enu ?_ | refine wp_zip ?_)
local macro_rules | `(tactic| walk_at "stB") => `(tactic| with_reducible first | refine wp_btru ?_ | refine wp_bnot ?_ | refine wp_band ?_ | refine wp_bor ?_)
local macro_rules | `(tactic| walk_at "stA") => `(tactic| with_reducible first | refine wp_perm ?_ | refine wp_star ?_)
local macro_rules | `(tactic| walk_at "stR") => `(tactic| first
  | with_reducible refine wp_oseq ?_
  | with_reducible refine wp_oret ?_
  | with_reducible refine wp_mod (by omega) ?_
  | with_reducible refine wp_fdiv (by omega) ?_
  | with_reducible refine wp_mul (by omega) ?_
  | (with_reducible refine wp_val isi_T ?_; try dsimp only)
  | (with_reducible refine wp_val sl1 ?_; try dsimp only)
  | (with_reducible refine wp_val ix0 ?_; try dsimp only)
  | (with_reducible refine wp_val ix0L ?_; try dsimp only)
  | (with_reducible refine wp_val isi_F ?_; try dsimp only)
  | (refine wp_val rfl ?_; try dsimp only [List.set_cons_zero, List.set_cons_succ, wipeR, List.length_nil, List.nil_append])
  | (refine ⟨_, rfl, ?_⟩; try dsimp only)
  | (refine ⟨Nat.le_of_ble_eq_true rfl, ?_⟩; try dsimp only [List.set_cons_zero, List.set_cons_succ, wipeR, List.length_nil, List.nil_append])
  | refine ⟨fun _ => ?_, fun h => absurd h (by decide)⟩
  | refine ⟨fun h => absurd h (by decide), fun _ => ?_⟩
  | refine ⟨(rfl : isDct _ = true), ?_⟩
  | (refine ⟨nd0, ?_⟩; try dsimp only [List.set_cons_zero, List.set_cons_succ, wipeR, List.length_nil, List.nil_append])
  | (refine ⟨nd1 _, ?_⟩; try dsimp only [List.set_cons_zero, List.set_cons_succ, wipeR, List.length_nil, List.nil_append])
  | (refine ⟨nd01, ?_⟩; try dsimp only [List.set_cons_zero, List.set_cons_succ, wipeR, List.length_nil, List.nil_append])
  | (refine ⟨by decide, ?_⟩; try dsimp only [List.set_cons_zero, List.set_cons_succ, wipeR, List.length_nil, List.nil_append]))
local macro_rules | `(tactic| walk_at "st2") => `(tactic| first | (with_reducible refine ty_E ?_; walk_at "stE") | (with_reducible refine ty_S ?_; walk_at "stS") | (with_reducible refine ty_F ?_; walk_at "stF") | (with_reducible refine ty_I ?_; walk_at "stI") | (with_reducible refine ty_B ?_; walk_at "stB") | (with_reducible refine ty_A ?_; walk_at "stA") | walk_at "stR")
local macro_rules | `(tactic| walk_at "st") => `(tactic| first
  | ((with_reducible first | refine lf_var ?_ | refine lf_view ?_ | refine lf_sc ?_ | refine lf_anil ?_ | refine lf_views ?_ | refine lf_pre ?_ | refine lf_fin ?_ | refine lf_putb ?_ | refine lf_tod ?_ | refine lf_nx ?_ | refine lf_gn ?_ | refine lf_bys ?_); refine wp_val rfl ?_; try dsimp only [List.set_cons_zero, List.set_cons_succ, wipeR, List.length_nil, List.nil_append])
  | (with_reducible first | refine wp_acons ?_ | refine wp_op ?_ | refine wp_fz ?_ | refine wp_set ?_ | refine wp_seq ?_ | refine wp_call ?_ | refine wp_n ?_ | refine wp_bof ?_)
  | walk_at "st2")
/-- a drawn term -/
structure Td (X V : Str → Prop) (n M : Nat) (t : Tt) : Prop where
  tr : Tr X V n t
  ar : t.ar ≤ 3
  sz : t.sz ≤ M
theorem Td.mono {X V X' V' : Str → Prop} {n k M N : Nat} {t : Tt} (h : Td X V n M t) (hX : ∀ w, X w → X' w) (hV : ∀ x, V x → V' x) (hk : n ≤ k) (hM : M ≤ N) : Td X' V' k N t := ⟨h.tr.mono hX hV hk, h.ar, Nat.le_trans h.sz hM⟩
end Nv
set_option Elab.async false
set_option linter.all false
set_option maxRecDepth 100000
set_option maxHeartbeats 4000000
namespace Nv
open PySem L2 Nv
local macro_rules | `(tactic| walk_at "stE") => `(tactic| with_reducible first | refine wp_mu ?_ | refine wp_sif ?_ | refine wp_callR ?_ | refine wp_tup ?_ | refine wp_isi ?_ | refine wp_app ?_ | refine wp_ext ?_ | refine wp_sl ?_ | refine wp_get2 ?_ | refine wp_sand ?_ | refine wp_chain ?_ | refine wp_sor ?_ | refine wp_neg ?_ | refine wp_pop ?_ | refine wp_pop0 ?_ | refine wp_callO ?_)
local macro_rules | `(tactic| walk_at "stS") => `(tactic| with_reducible first | refine wp_ret ?_ | refine wp_drop ?_ | refine wp_ifs ?_ | refine wp_put ?_ | refine wp_setix ?_ | refine wp_for ?_ | refine wp_asg ?_ | refine wp_lock ?_)
local macro_rules | `(tactic| walk_at "stF") => `(tactic| with_reducible first | refine wp_lst ?_ | refine wp_mt ?_ | refine wp_lc ?_ | refine wp_rev ?_ | refine wp_s2 ?_ | refine wp_dc ?_)
local macro_rules | `(tactic| walk_at "stI") => `(tactic| with_reducible first | refine wp_iof ?_ | refine wp_range1 ?_ | refine wp_enu ?_ | refine wp_zip ?_)
local macro_rules | `(tactic| walk_at "stB") => `(tactic| with_reducible first | refine wp_btru ?_ | refine wp_bnot ?_ | refine wp_band ?_ | refine wp_bor ?_)
local macro_rules | `(tactic| walk_at "stA") => `(tactic| with_reducible first | refine wp_perm ?_ | refine wp_star ?_)
local macro_rules | `(tactic| walk_at "stR") => `(tactic| first
  | with_reducible refine wp_oseq ?_
  | with_reducible refine wp_oret ?_
  | with_reducible refine wp_mod (by omega) ?_
  | with_reducible refine wp_fdiv (by omega) ?_
  | with_reducible refine wp_mul (by omega) ?_
  | (with_reducible refine wp_val isi_T ?_; try dsimp only)
  | (with_reducible refine wp_val sl1 ?_; try dsimp only)
  | (with_reducible refine wp_val ix0 ?_; try dsimp only)
  | (with_reducible refine wp_val ix0L ?_; try dsimp only)
  | (with_reducible refine wp_val isi_F ?_; try dsimp only)
  | (refine wp_val rfl ?_; try dsimp only [List.set_cons_zero, List.set_cons_succ, wipeR, List.length_nil, List.nil_append])
  | (refine ⟨_, rfl, ?_⟩; try dsimp only)
  | (refine ⟨Nat.le_of_ble_eq_true rfl, ?_⟩; try dsimp only [List.set_cons_zero, List.set_cons_succ, wipeR, List.length_nil, List.nil_append])
  | refine ⟨fun _ => ?_, fun h => absurd h (by decide)⟩
  | refine ⟨fun h => absurd h (by decide), fun _ => ?_⟩
  | refine ⟨(rfl : isDct _ = true), ?_⟩
  | (refine ⟨nd0, ?_⟩; try dsimp only [List.set_cons_zero, List.set_cons_succ, wipeR, List.length_nil, List.nil_append])
  | (refine ⟨nd1 _, ?_⟩; try dsimp only [List.set_cons_zero, List.set_cons_succ, wipeR, List.length_nil, List.nil_append])
  | (refine ⟨nd01, ?_⟩; try dsimp only [List.set_cons_zero, List.set_cons_succ, wipeR, List.length_nil, List.nil_append])
  | (refine ⟨by decide, ?_⟩; try dsimp only [List.set_cons_zero, List.set_cons_succ, wipeR, List.length_nil, List.nil_append]))
local macro_rules | `(tactic| walk_at "st2") => `(tactic| first | (with_reducible refine ty_E ?_; walk_at "stE") | (with_reducible refine ty_S ?_; walk_at "stS") | (with_reducible refine ty_F ?_; walk_at "stF") | (with_reducible refine ty_I ?_; walk_at "stI") | (with_reducible refine ty_B ?_; walk_at "stB") | (with_reducible refine ty_A ?_; walk_at "stA") | walk_at "stR")
local macro_rules | `(tactic| walk_at "st") => `(tactic| first
  | ((with_reducible first | refine lf_var ?_ | refine lf_view ?_ | refine lf_sc ?_ | refine lf_anil ?_ | refine lf_views ?_ | refine lf_pre ?_ | refine lf_fin ?_ | refine lf_putb ?_ | refine lf_tod ?_ | refine lf_nx ?_ | refine lf_gn ?_ | refine lf_bys ?_); refine wp_val rfl ?_; try dsimp only [List.set_cons_zero, List.set_cons_succ, wipeR, List.length_nil, List.nil_append])
  | (with_reducible first | refine wp_acons ?_ | refine wp_op ?_ | refine wp_fz ?_ | refine wp_set ?_ | refine wp_seq ?_ | refine wp_call ?_ | refine wp_n ?_ | refine wp_bof ?_)
  | walk_at "st2")
/-! ### what laws do with terms -/
end Nv
set_option Elab.async false
set_option linter.all false
set_option maxRecDepth 100000
set_option maxHeartbeats 4000000
namespace Nv
open PySem L2 Nv
local macro_rules | `(tactic| walk_at "stE") => `(tactic| with_reducible first | refine wp_mu ?_ | refine wp_sif ?_ | refine wp_callR ?_ | refine wp_tup ?_ | refine wp_isi ?_ | refine wp_app ?_ | refine wp_ext ?_ | refine wp_sl ?_ | refine wp_get2 ?_ | refine wp_sand ?_ | refine wp_chain ?_ | refine wp_sor ?_ | refine wp_neg ?_ | refine wp_pop ?_ | refine wp_pop0 ?_ | refine wp_callO ?_)
local macro_rules | `(tactic| walk_at "stS") => `(tactic| with_reducible first | refine wp_ret ?_ | refine wp_drop ?_ | refine wp_ifs ?_ | refine wp_put ?_ | refine wp_setix ?_ | refine wp_for ?_ | refine wp_asg ?_ | refine wp_lock ?_)
local macro_rules | `(tactic| walk_at "stF") => `(tactic| with_reducible first | refine wp_lst ?_ | refine wp_mt ?_ | refine wp_lc ?_ | refine wp_rev ?_ | refine wp_s2 ?_ | refine wp_dc ?_)
local macro_rules | `(tactic| walk_at "stI") => `(tactic| with_reducible first | refine wp_iof ?_ | refine wp_range1 ?_ | refine wp_enu ?_ | refine wp_zip ?_)
local macro_rules | `(tactic| walk_at "stB") => `(tactic| with_reducible first | refine wp_btru ?_ | refine wp_bnot ?_ | refine wp_band ?_ | refine wp_bor ?_)
local macro_rules | `(tactic| walk_at "stA") => `(tactic| with_reducible first | refine wp_perm ?_ | refine wp_star ?_)
local macro_rules | `(tactic| walk_at "stR") => `(tactic| first
  | with_reducible refine wp_oseq ?_
  | with_reducible refine wp_oret ?_
  | with_reducible refine wp_mod (by omega) ?_
  | with_reducible refine wp_fdiv (by omega) ?_
  | with_reducible refine wp_mul (by omega) ?_
  | (with_reducible refine wp_val isi_T ?_; try dsimp only)
  | (with_reducible refine wp_val sl1 ?_; try dsimp only)
  | (with_reducible refine wp_val ix0 ?_; try dsimp only)
  | (with_reducible refine wp_val ix0L ?_; try dsimp only)
  | (with_reducible refine wp_val isi_F ?_; try dsimp only)
  | (refine wp_val rfl ?_; try dsimp only [List.set_cons_zero, List.set_cons_succ, wipeR, List.length_nil, List.nil_append])
  | (refine ⟨_, rfl, ?_⟩; try dsimp only)
  | (refine ⟨Nat.le_of_ble_eq_true rfl, ?_⟩; try dsimp only [List.set_cons_zero, List.set_cons_succ, wipeR, List.length_nil, List.nil_append])
  | refine ⟨fun _ => ?_, fun h => absurd h (by decide)⟩
  | refine ⟨fun h => absurd h (by decide), fun _ => ?_⟩
  | refine ⟨(rfl : isDct _ = true), ?_⟩
  | (refine ⟨nd0, ?_⟩; try dsimp only [List.set_cons_zero, List.set_cons_succ, wipeR, List.length_nil, List.nil_append])
  | (refine ⟨nd1 _, ?_⟩; try dsimp only [List.set_cons_zero, List.set_cons_succ, wipeR, List.length_nil, List.nil_append])
  | (refine ⟨nd01, ?_⟩; try dsimp only [List.set_cons_zero, List.set_cons_succ, wipeR, List.length_nil, List.nil_append])
  | (refine ⟨by decide, ?_⟩; try dsimp only [List.set_cons_zero, List.set_cons_succ, wipeR, List.length_nil, List.nil_append]))
local macro_rules | `(tactic| walk_at "st2") => `(tactic| first | (with_reducible refine ty_E ?_; walk_at "stE") | (with_reducible refine ty_S ?_; walk_at "stS") | (with_reducible refine ty_F ?_; walk_at "stF") | (with_reducible refine ty_I ?_; walk_at "stI") | (with_reducible refine ty_B ?_; walk_at "stB") | (with_reducible refine ty_A ?_; walk_at "stA") | walk_at "stR")
local macro_rules | `(tactic| walk_at "st") => `(tactic| first
  | ((with_reducible first | refine lf_var ?_ | refine lf_view ?_ | refine lf_sc ?_ | refine lf_anil ?_ | refine lf_views ?_ | refine lf_pre ?_ | refine lf_fin ?_ | refine lf_putb ?_ | refine lf_tod ?_ | refine lf_nx ?_ | refine lf_gn ?_ | refine lf_bys ?_); refine wp_val rfl ?_; try dsimp only [List.set_cons_zero, List.set_cons_succ, wipeR, List.length_nil, List.nil_append])
  | (with_reducible first | refine wp_acons ?_ | refine wp_op ?_ | refine wp_fz ?_ | refine wp_set ?_ | refine wp_seq ?_ | refine wp_call ?_ | refine wp_n ?_ | refine wp_bof ?_)
  | walk_at "st2")
theorem cut_lo {A : Type} (xs : List A) (j : Nat) : cut xs (some (j : Int)) none = xs.drop j := by
  unfold cut
  rw [HT.sIx_nat, HT.sIx_none]
  rcases Nat.le_total j xs.length with h | h
  · rw [Nat.min_eq_left h, List.take_of_length_le (by simp)]
  · rw [Nat.min_eq_right h, List.drop_of_length_le (Nat.le_refl _), List.drop_of_length_le h]; simp
theorem cut_hi {A : Type} (xs : List A) (j : Nat) : cut xs none (some (j : Int)) = xs.take j := by
  unfold cut
  rw [HT.sIx_nat, HT.sIx_none]
  simp
/-- a drawn fill -/
structure Fd (lex lets : List Str) (n M : Nat) (g : Fil) : Prop where
  nd : (g.map (·.1)).Nodup
  key : ∀ p ∈ g, p.1 ∈ lets
  val : ∀ p ∈ g, Td (· ∈ lex) (· ∈ lets) n M p.2
theorem Fd.nil {lex lets : List Str} {n M : Nat} : Fd lex lets n M [] := ⟨by simp, fun p h => (nomatch h), fun p h => (nomatch h)⟩
end Nv
set_option Elab.async false
set_option linter.all false
set_option maxRecDepth 100000
set_option maxHeartbeats 4000000
namespace Nv
open PySem L2 Nv
local macro_rules | `(tactic| walk_at "stE") => `(tactic| with_reducible first | refine wp_mu ?_ | refine wp_sif ?_ | refine wp_callR ?_ | refine wp_tup ?_ | refine wp_isi ?_ | refine wp_app ?_ | refine wp_ext ?_ | refine wp_sl ?_ | refine wp_get2 ?_ | refine wp_sand ?_ | refine wp_chain ?_ | refine wp_sor ?_ | refine wp_neg ?_ | refine wp_pop ?_ | refine wp_pop0 ?_ | refine wp_callO ?_)
local macro_rules | `(tactic| walk_at "stS") => `(tactic| with_reducible first | refine wp_ret ?_ | refine wp_drop ?_ | refine wp_ifs ?_ | refine wp_put ?_ | refine wp_setix ?_ | refine wp_for ?_ | refine wp_asg ?_ | refine wp_lock ?_)
local macro_rules | `(tactic| walk_at "stF") => `(tactic| with_reducible first | refine wp_lst ?_ | refine wp_mt ?_ | refine wp_lc ?_ | refine wp_rev ?_ | refine wp_s2 ?_ | refine wp_dc ?_)
local macro_rules | `(tactic| walk_at "stI") => `(tactic| with_reducible first | refine wp_iof ?_ | refine wp_range1 ?_ | refine wp_enu ?_ | refine wp_zip ?_)
local macro_rules | `(tactic| walk_at "stB") => `(tactic| with_reducible first | refine wp_btru ?_ | refine wp_bnot ?_ | refine wp_band ?_ | refine wp_bor ?_)
local macro_rules | `(tactic| walk_at "stA") => `(tactic| with_reducible first | refine wp_perm ?_ | refine wp_star ?_)
local macro_rules | `(tactic| walk_at "stR") => `(tactic| first
  | with_reducible refine wp_oseq ?_
  | with_reducible refine wp_oret ?_
  | with_reducible refine wp_mod (by omega) ?_
  | with_reducible refine wp_fdiv (by omega) ?_
  | with_reducible refine wp_mul (by omega) ?_
  | (with_reducible refine wp_val isi_T ?_; try dsimp only)
  | (with_reducible refine wp_val sl1 ?_; try dsimp only)
  | (with_reducible refine wp_val ix0 ?_; try dsimp only)
  | (with_reducible refine wp_val ix0L ?_; try dsimp only)
  | (with_reducible refine wp_val isi_F ?_; try dsimp only)
  | (refine wp_val rfl ?_; try dsimp only [List.set_cons_zero, List.set_cons_succ, wipeR, List.length_nil, List.nil_append])
  | (refine ⟨_, rfl, ?_⟩; try dsimp only)
  | (refine ⟨Nat.le_of_ble_eq_true rfl, ?_⟩; try dsimp only [List.set_cons_zero, List.set_cons_succ, wipeR, List.length_nil, List.nil_append])
  | refine ⟨fun _ => ?_, fun h => absurd h (by decide)⟩
  | refine ⟨fun h => absurd h (by decide), fun _ => ?_⟩
  | refine ⟨(rfl : isDct _ = true), ?_⟩
  | (refine ⟨nd0, ?_⟩; try dsimp only [List.set_cons_zero, List.set_cons_succ, wipeR, List.length_nil, List.nil_append])
  | (refine ⟨nd1 _, ?_⟩; try dsimp only [List.set_cons_zero, List.set_cons_succ, wipeR, List.length_nil, List.nil_append])
  | (refine ⟨nd01, ?_⟩; try dsimp only [List.set_cons_zero, List.set_cons_succ, wipeR, List.length_nil, List.nil_append])
  | (refine ⟨by decide, ?_⟩; try dsimp only [List.set_cons_zero, List.set_cons_succ, wipeR, List.length_nil, List.nil_append]))
local macro_rules | `(tactic| walk_at "st2") => `(tactic| first | (with_reducible refine ty_E ?_; walk_at "stE") | (with_reducible refine ty_S ?_; walk_at "stS") | (with_reducible refine ty_F ?_; walk_at "stF") | (with_reducible refine ty_I ?_; walk_at "stI") | (with_reducible refine ty_B ?_; walk_at "stB") | (with_reducible refine ty_A ?_; walk_at "stA") | walk_at "stR")
local macro_rules | `(tactic| walk_at "st") => `(tactic| first
  | ((with_reducible first | refine lf_var ?_ | refine lf_view ?_ | refine lf_sc ?_ | refine lf_anil ?_ | refine lf_views ?_ | refine lf_pre ?_ | refine lf_fin ?_ | refine lf_putb ?_ | refine lf_tod ?_ | refine lf_nx ?_ | refine lf_gn ?_ | refine lf_bys ?_); refine wp_val rfl ?_; try dsimp only [List.set_cons_zero, List.set_cons_succ, wipeR, List.length_nil, List.nil_append])
  | (with_reducible first | refine wp_acons ?_ | refine wp_op ?_ | refine wp_fz ?_ | refine wp_set ?_ | refine wp_seq ?_ | refine wp_call ?_ | refine wp_n ?_ | refine wp_bof ?_)
  | walk_at "st2")
structure Tds (lex lets : List Str) (v n M : Nat) (ts : List Tt) : Prop where
  l : ts.length = v
  t : ∀ t ∈ ts, Td (· ∈ lex) (· ∈ lets) n M t
theorem Tds.mono {lex lets : List Str} {v n M k N : Nat} {ts : List Tt} (h : Tds lex lets v n M ts) (hk : n ≤ k) (hM : M ≤ N) : Tds lex lets v k N ts := ⟨h.l, fun t ht => (h.t t ht).mono (fun _ h => h) (fun _ h => h) hk hM⟩
end Nv
set_option Elab.async false
set_option linter.all false
set_option maxRecDepth 100000
set_option maxHeartbeats 4000000
namespace Nv
open PySem L2 Nv
local macro_rules | `(tactic| walk_at "stE") => `(tactic| with_reducible first | refine wp_mu ?_ | refine wp_sif ?_ | refine wp_callR ?_ | refine wp_tup ?_ | refine wp_isi ?_ | refine wp_app ?_ | refine wp_ext ?_ | refine wp_sl ?_ | refine wp_get2 ?_ | refine wp_sand ?_ | refine wp_chain ?_ | refine wp_sor ?_ | refine wp_neg ?_ | refine wp_pop ?_ | refine wp_pop0 ?_ | refine wp_callO ?_)
local macro_rules | `(tactic| walk_at "stS") => `(tactic| with_reducible first | refine wp_ret ?_ | refine wp_drop ?_ | refine wp_ifs ?_ | refine wp_put ?_ | refine wp_setix ?_ | refine wp_for ?_ | refine wp_asg ?_ | refine wp_lock ?_)
local macro_rules | `(tactic| walk_at "stF") => `(tactic| with_reducible first | refine wp_lst ?_ | refine wp_mt ?_ | refine wp_lc ?_ | refine wp_rev ?_ | refine wp_s2 ?_ | refine wp_dc ?_)
local macro_rules | `(tactic| walk_at "stI") => `(tactic| with_reducible first | refine wp_iof ?_ | refine wp_range1 ?_ | refine wp_enu ?_ | refine wp_zip ?_)
local macro_rules | `(tactic| walk_at "stB") => `(tactic| with_reducible first | refine wp_btru ?_ | refine wp_bnot ?_ | refine wp_band ?_ | refine wp_bor ?_)
local macro_rules | `(tactic| walk_at "stA") => `(tactic| with_reducible first | refine wp_perm ?_ | refine wp_star ?_)
local macro_rules | `(tactic| walk_at "stR") => `(tactic| first
  | with_reducible refine wp_oseq ?_
  | with_reducible refine wp_oret ?_
  | with_reducible refine wp_mod (by omega) ?_
  | with_reducible refine wp_fdiv (by omega) ?_
  | with_reducible refine wp_mul (by omega) ?_
  | (with_reducible refine wp_val isi_T ?_; try dsimp only)
  | (with_reducible refine wp_val sl1 ?_; try dsimp only)
  | (with_reducible refine wp_val ix0 ?_; try dsimp only)
  | (with_reducible refine wp_val ix0L ?_; try dsimp only)
  | (with_reducible refine wp_val isi_F ?_; try dsimp only)
  | (refine wp_val rfl ?_; try dsimp only [List.set_cons_zero, List.set_cons_succ, wipeR, List.length_nil, List.nil_append])
  | (refine ⟨_, rfl, ?_⟩; try dsimp only)
  | (refine ⟨Nat.le_of_ble_eq_true rfl, ?_⟩; try dsimp only [List.set_cons_zero, List.set_cons_succ, wipeR, List.length_nil, List.nil_append])
  | refine ⟨fun _ => ?_, fun h => absurd h (by decide)⟩
  | refine ⟨fun h => absurd h (by decide), fun _ => ?_⟩
  | refine ⟨(rfl : isDct _ = true), ?_⟩
  | (refine ⟨nd0, ?_⟩; try dsimp only [List.set_cons_zero, List.set_cons_succ, wipeR, List.length_nil, List.nil_append])
  | (refine ⟨nd1 _, ?_⟩; try dsimp only [List.set_cons_zero, List.set_cons_succ, wipeR, List.length_nil, List.nil_append])
  | (refine ⟨nd01, ?_⟩; try dsimp only [List.set_cons_zero, List.set_cons_succ, wipeR, List.length_nil, List.nil_append])
  | (refine ⟨by decide, ?_⟩; try dsimp only [List.set_cons_zero, List.set_cons_succ, wipeR, List.length_nil, List.nil_append]))
local macro_rules | `(tactic| walk_at "st2") => `(tactic| first | (with_reducible refine ty_E ?_; walk_at "stE") | (with_reducible refine ty_S ?_; walk_at "stS") | (with_reducible refine ty_F ?_; walk_at "stF") | (with_reducible refine ty_I ?_; walk_at "stI") | (with_reducible refine ty_B ?_; walk_at "stB") | (with_reducible refine ty_A ?_; walk_at "stA") | walk_at "stR")
local macro_rules | `(tactic| walk_at "st") => `(tactic| first
  | ((with_reducible first | refine lf_var ?_ | refine lf_view ?_ | refine lf_sc ?_ | refine lf_anil ?_ | refine lf_views ?_ | refine lf_pre ?_ | refine lf_fin ?_ | refine lf_putb ?_ | refine lf_tod ?_ | refine lf_nx ?_ | refine lf_gn ?_ | refine lf_bys ?_); refine wp_val rfl ?_; try dsimp only [List.set_cons_zero, List.set_cons_succ, wipeR, List.length_nil, List.nil_append])
  | (with_reducible first | refine wp_acons ?_ | refine wp_op ?_ | refine wp_fz ?_ | refine wp_set ?_ | refine wp_seq ?_ | refine wp_call ?_ | refine wp_n ?_ | refine wp_bof ?_)
  | walk_at "st2")
/-! ### matching -/
/-- what a fill says holds of a substitution -/
def Ext (g : Fil) (θ : Str → Tt) : Prop := ∀ x t, lk g x = some t → θ x = t
theorem key_iff {g : Fil} {x : Str} : x ∈ g.map (·.1) ↔ ∃ t, lk g x = some t := by
  constructor
  · intro h
    cases e : lk g x with
    | none => exact absurd h (lk_none.mp e)
    | some t => exact ⟨t, rfl⟩
  · rintro ⟨t, e⟩
    exact List.mem_map.mpr ⟨_, lk_mem e, rfl⟩
/-- from one fill to another one that makes terms others -/
structure Goes (g g' : Fil) (vs : List Str) : Prop where
  up : ∀ x t, lk g x = some t → lk g' x = some t
  key : ∀ x, x ∈ g'.map (·.1) ↔ x ∈ g.map (·.1) ∨ x ∈ vs
theorem Goes.refl (g : Fil) : Goes g g [] := ⟨fun _ _ h => h, fun x => by simp⟩
theorem Goes.trans {g g' g'' : Fil} {vs us : List Str} (h : Goes g g' vs) (k : Goes g' g'' us) : Goes g g'' (vs ++ us) := ⟨fun x t e => k.up x t (h.up x t e), fun x => by rw [k.key, h.key, List.mem_append, or_assoc]⟩
theorem Goes.ext {g g' : Fil} {vs : List Str} {θ : Str → Tt} (h : Goes g g' vs) (e : Ext g' θ) : Ext g θ := fun x t q => e x t (h.up x t q)
/-- a fill whose terms can be compared -/
structure FN (g : Fil) : Prop where
  nd : (g.map (·.1)).Nodup
  val : ∀ p ∈ g, Tr Sok Sok 120 p.2
theorem Goes.sub {g g' g'' : Fil} {vs us : List Str} (h : Goes g g' vs) (k : Goes g' g'' us) {s : Tt} (hs : ∀ x ∈ s.vo, x ∈ vs) : s.sub (sg g'') = s.sub (sg g') := Tt.sub_congr fun x hx => by
  obtain ⟨u, hu⟩ := key_iff.mp ((h.key x).mpr (.inr (hs x hx)))
  unfold sg
  rw [k.up x u hu, hu]
/-- where matching parts one by one stands -/
structure MSt (g : Fil) (pre : List (Tt × Tt)) (b : Bool) (g' : Fil) : Prop where
  fn : FN g'
  len : g'.length ≤ g.length + (pre.map fun p => p.1.sz).sum
  yes : b = true → Goes g g' (pre.flatMap fun p => p.1.vo) ∧ ∀ p ∈ pre, p.1.sub (sg g') = p.2
  no : b = false → ∀ θ, Ext g θ → ¬ ∀ p ∈ pre, p.1.sub θ = p.2
theorem MSt.nil {g : Fil} (h : FN g) : MSt g [] true g := ⟨h, by simp, fun _ => ⟨Goes.refl g, fun p hp => nomatch hp⟩, fun h => nomatch h⟩
theorem bls_map {A : Type} (F : A → Bool) : ∀ l : List A, blsOf (l.map fun c => .bl (F c)) = some (l.map F)
  | [] => rfl
  | c :: l => by simp only [List.map_cons, blsOf, bls_map F l, Option.map_some]
theorem all_map {A : Type} (F : A → Bool) (l : List A) : dAll [.lst (l.map fun c => .bl (F c))] = .ok (.bl (l.all F)) := by
  simp only [dAll, bls_map, ofO, ok_bind]
  congr 2
  induction l with
  | nil => rfl
  | cons c l ih => simp [List.all_cons]
end Nv
set_option Elab.async false
set_option linter.all false
set_option maxRecDepth 100000
set_option maxHeartbeats 4000000
namespace Nv
open PySem L2 Nv
local macro_rules | `(tactic| walk_at "stE") => `(tactic| with_reducible first | refine wp_mu ?_ | refine wp_sif ?_ | refine wp_callR ?_ | refine wp_tup ?_ | refine wp_isi ?_ | refine wp_app ?_ | refine wp_ext ?_ | refine wp_sl ?_ | refine wp_get2 ?_ | refine wp_sand ?_ | refine wp_chain ?_ | refine wp_sor ?_ | refine wp_neg ?_ | refine wp_pop ?_ | refine wp_pop0 ?_ | refine wp_callO ?_)
local macro_rules | `(tactic| walk_at "stS") => `(tactic| with_reducible first | refine wp_ret ?_ | refine wp_drop ?_ | refine wp_ifs ?_ | refine wp_put ?_ | refine wp_setix ?_ | refine wp_for ?_ | refine wp_asg ?_ | refine wp_lock ?_)
local macro_rules | `(tactic| walk_at "stF") => `(tactic| with_reducible first | refine wp_lst ?_ | refine wp_mt ?_ | refine wp_lc ?_ | refine wp_rev ?_ | refine wp_s2 ?_ | refine wp_dc ?_)
local macro_rules | `(tactic| walk_at "stI") => `(tactic| with_reducible first | refine wp_iof ?_ | refine wp_range1 ?_ | refine wp_enu ?_ | refine wp_zip ?_)
local macro_rules | `(tactic| walk_at "stB") => `(tactic| with_reducible first | refine wp_btru ?_ | refine wp_bnot ?_ | refine wp_band ?_ | refine wp_bor ?_)
local macro_rules | `(tactic| walk_at "stA") => `(tactic| with_reducible first | refine wp_perm ?_ | refine wp_star ?_)
local macro_rules | `(tactic| walk_at "stR") => `(tactic| first
  | with_reducible refine wp_oseq ?_
  | with_reducible refine wp_oret ?_
  | with_reducible refine wp_mod (by omega) ?_
  | with_reducible refine wp_fdiv (by omega) ?_
  | with_reducible refine wp_mul (by omega) ?_
  | (with_reducible refine wp_val isi_T ?_; try dsimp only)
  | (with_reducible refine wp_val sl1 ?_; try dsimp only)
  | (with_reducible refine wp_val ix0 ?_; try dsimp only)
  | (with_reducible refine wp_val ix0L ?_; try dsimp only)
  | (with_reducible refine wp_val isi_F ?_; try dsimp only)
  | (refine wp_val rfl ?_; try dsimp only [List.set_cons_zero, List.set_cons_succ, wipeR, List.length_nil, List.nil_append])
  | (refine ⟨_, rfl, ?_⟩; try dsimp only)
  | (refine ⟨Nat.le_of_ble_eq_true rfl, ?_⟩; try dsimp only [List.set_cons_zero, List.set_cons_succ, wipeR, List.length_nil, List.nil_append])
  | refine ⟨fun _ => ?_, fun h => absurd h (by decide)⟩
  | refine ⟨fun h => absurd h (by decide), fun _ => ?_⟩
  | refine ⟨(rfl : isDct _ = true), ?_⟩
  | (refine ⟨nd0, ?_⟩; try dsimp only [List.set_cons_zero, List.set_cons_succ, wipeR, List.length_nil, List.nil_append])
  | (refine ⟨nd1 _, ?_⟩; try dsimp only [List.set_cons_zero, List.set_cons_succ, wipeR, List.length_nil, List.nil_append])
  | (refine ⟨nd01, ?_⟩; try dsimp only [List.set_cons_zero, List.set_cons_succ, wipeR, List.length_nil, List.nil_append])
  | (refine ⟨by decide, ?_⟩; try dsimp only [List.set_cons_zero, List.set_cons_succ, wipeR, List.length_nil, List.nil_append]))
local macro_rules | `(tactic| walk_at "st2") => `(tactic| first | (with_reducible refine ty_E ?_; walk_at "stE") | (with_reducible refine ty_S ?_; walk_at "stS") | (with_reducible refine ty_F ?_; walk_at "stF") | (with_reducible refine ty_I ?_; walk_at "stI") | (with_reducible refine ty_B ?_; walk_at "stB") | (with_reducible refine ty_A ?_; walk_at "stA") | walk_at "stR")
local macro_rules | `(tactic| walk_at "st") => `(tactic| first
  | ((with_reducible first | refine lf_var ?_ | refine lf_view ?_ | refine lf_sc ?_ | refine lf_anil ?_ | refine lf_views ?_ | refine lf_pre ?_ | refine lf_fin ?_ | refine lf_putb ?_ | refine lf_tod ?_ | refine lf_nx ?_ | refine lf_gn ?_ | refine lf_bys ?_); refine wp_val rfl ?_; try dsimp only [List.set_cons_zero, List.set_cons_succ, wipeR, List.length_nil, List.nil_append])
  | (with_reducible first | refine wp_acons ?_ | refine wp_op ?_ | refine wp_fz ?_ | refine wp_set ?_ | refine wp_seq ?_ | refine wp_call ?_ | refine wp_n ?_ | refine wp_bof ?_)
  | walk_at "st2")
end Nv
set_option Elab.async false
set_option linter.all false
set_option maxRecDepth 100000
set_option maxHeartbeats 4000000
namespace Nv
open PySem L2 Nv
theorem wp_snot {f : SE} {r : List Sl} {m : List Cell} {Q : Sl × List Cell → Prop} (h : wp (bOf f r m) fun q => Q (.val (.bl (!q.1)), q.2)) : wp (sNot f r m) Q := by
  obtain ⟨⟨b, m1⟩, e1, h1⟩ := h
  exact wp_bind (wp_val e1 (wp_ok h1))
end Nv
set_option Elab.async false
set_option linter.all false
set_option maxRecDepth 100000
set_option maxHeartbeats 4000000
namespace Nv
open PySem PySem.Spec PyProof.Rows L2
section
variable {r : List Sl} {m : List Cell} {cs : List Nat} {f : Str} {fo fv ff fk : SE} {fa : SA} {g : Fn} {gs : GS} {n c : Nat} {mn : Str}
theorem wp_att {Q : Sl × List Cell → Prop} (h : wp (fo r m) fun o => wp (view o.2 o.1) fun d => ∃ c fs x, d = .ins c fs ∧ c ∈ cs ∧ fs.lookup f = some x ∧ Q (.val x, o.2)) : wp (sAtt cs f fo r m) Q := by
  obtain ⟨⟨o, m1⟩, e, d, e2, c, fs, x, rfl, hc, hl, q⟩ := h
  refine wp_bind (wp_val e (wp_bind (wp_val e2 ?_)))
  simp only [hc, if_true, hl]
  exact wp_ok q
theorem wp_store {Q : Fl × List Sl × List Cell → Prop} (h : wp (fv r m) fun s => wp (fo r s.2) fun o => wp (toD s.1 o.2) fun x => ∃ j k c fs, o.1 = .ref j ∧ x.2[j]? = some ⟨k, .ins c fs⟩ ∧ (k = .own ∨ k = .bor) ∧ c ∈ cs ∧ fs.length < 1000 ∧ Q (.nx, r, x.2.set j ⟨k, .ins c (setF f x.1 fs)⟩)) : wp (sStore cs f fo fv r m) Q := by
  obtain ⟨⟨s, m1⟩, e, ⟨o, m2⟩, e2, ⟨x, m3⟩, e3, j, k, c, fs, h1, h2, h3, h4, h5, q⟩ := h
  refine wp_bind (wp_val e (wp_bind (wp_val e2 (wp_bind (wp_val e3 ?_)))))
  simp only at h1 h2
  subst h1
  simp only [h2]
  rcases h3 with rfl | rfl <;> (simp only [h4, h5, and_self, if_true]; exact wp_ok q)
theorem wp_prop {Q : Sl × List Cell → Prop} (h : wp (fo r m) fun o => wp (toD o.1 o.2) fun d => ∃ c fs x, d.1 = .ins c fs ∧ c ∈ cs ∧ g [.v (.ins c fs)] = .ok (x, []) ∧ Q (.val x, d.2)) : wp (sProp cs g fo r m) Q := by
  obtain ⟨⟨o, m1⟩, e, ⟨d, m2⟩, e2, c, fs, x, h1, hc, hl, q⟩ := h
  refine wp_bind (wp_val e (wp_bind (wp_val e2 ?_)))
  simp only at h1
  subst h1
  simp only [hc, if_true]
  refine wp_bind (wp_val (a := x) ?_ (wp_ok q))
  show (g ([D.ins c fs].map .v) >>= _) = _
  rw [show [D.ins c fs].map Arg.v = [.v (.ins c fs)] from rfl, hl]
  rfl
theorem wp_methG {Q : Sl × List Cell → Prop} (h : wp (fo r m) fun o => wp (toD o.1 o.2) fun d => ∃ c fs, d.1 = .ins c fs ∧ c ∈ cs ∧ fs.lookup mn = none ∧ wp (fa r d.2) fun a => wp (toDs a.1 a.2) fun ds => ds.1.length + 1 = n ∧ wp (gs (.ins c fs :: ds.1) ds.2) Q) : wp (sMethG cs mn n gs fo fa r m) Q := by
  obtain ⟨⟨o, m1⟩, e, ⟨d, m2⟩, e2, c, fs, h1, hc, hl, ⟨ss, m3⟩, e3, ⟨ds, m4⟩, e4, hn, q⟩ := h
  refine wp_bind (wp_val e (wp_bind (wp_val e2 ?_)))
  simp only at h1
  subst h1
  simp only [hc, hl, and_self, if_true]
  refine wp_bind (wp_val e3 (wp_bind (wp_val e4 ?_)))
  simp only [hn, if_true]
  exact q
theorem wp_cm {Q : Sl × List Cell → Prop} (h : wp (fo r m) fun o => o.1 = .val (.cls c) ∧ wp (fa r o.2) fun a => wp (toDs a.1 a.2) fun ds => ds.1.length + 1 = n ∧ wp (gs (.cls c :: ds.1) ds.2) Q) : wp (sCm c n gs fo fa r m) Q := by
  obtain ⟨⟨o, m1⟩, e, h1, ⟨ss, m3⟩, e3, ⟨ds, m4⟩, e4, hn, q⟩ := h
  refine wp_bind (wp_val e ?_)
  simp only at h1
  subst h1
  simp only [if_true]
  refine wp_bind (wp_val e3 (wp_bind (wp_val e4 ?_)))
  simp only [hn, if_true]
  exact q
theorem wp_gsD {ds : List D} {m : List Cell} {Q : Sl × List Cell → Prop} (h : wp (g (ds.map .v)) fun x => x.2 = [] ∧ Q (.val x.1, m)) : wp (gsD g ds m) Q := by
  obtain ⟨⟨d, bs⟩, e, h1, q⟩ := h
  simp only at h1
  subst h1
  refine wp_bind (wp_val (a := d) ?_ (wp_ok q))
  show (g (ds.map .v) >>= _) = _
  rw [e]
  rfl
theorem wp_gsO {g : List D → Out (Bool × D)} {ds : List D} {m : List Cell} {Q : Sl × List Cell → Prop} (h : wp (g ds) fun x => (x.1 = true → Q (.ref m.length, m ++ [⟨.own, x.2⟩])) ∧ (x.1 = false → Q (.val x.2, m))) : wp (gsO g ds m) Q := by
  obtain ⟨⟨b, d⟩, e, h1, h2⟩ := h
  refine wp_bind (wp_val e ?_)
  cases b with
  | true => exact wp_ok (h1 rfl)
  | false => exact wp_ok (h2 rfl)
theorem wp_new {g : InitF} {Q : Sl × List Cell → Prop} (h : wp (fa r m) fun a => wp (toDs a.1 a.2) fun ds => wp (g c ds.1 []) fun fs => Q (.val (.ins c fs), ds.2)) : wp (sNew c g fa r m) Q := by
  obtain ⟨⟨ss, m3⟩, e3, ⟨ds, m4⟩, e4, fs, e5, q⟩ := h
  exact wp_bind (wp_val e3 (wp_bind (wp_val e4 (wp_bind (wp_val e5 (wp_ok q))))))
theorem wp_newV {g : InitF} {Q : Sl × List Cell → Prop} (h : wp (ff r m) fun o => ∃ c, o.1 = .val (.cls c) ∧ c ∈ cs ∧ wp (fa r o.2) fun a => wp (fk r a.2) fun k => wp (toD k.1 k.2) fun dk => dk.1 = .dct [] ∧ wp (toDs a.1 dk.2) fun ds => wp (g c ds.1 []) fun fs => Q (.val (.ins c fs), ds.2)) : wp (sNewV cs g ff fa fk r m) Q := by
  obtain ⟨⟨o, m1⟩, e, c, h1, hc, ⟨ss, m3⟩, e3, ⟨kd, m2⟩, e2, ⟨dk, m5⟩, e5, h5, ⟨ds, m4⟩, e4, fs, e6, q⟩ := h
  refine wp_bind (wp_val e ?_)
  simp only at h1 h5
  subst h1; subst h5
  simp only [hc, if_true]
  exact wp_bind (wp_val e3 (wp_bind (wp_val e2 (wp_bind (wp_val e5 (wp_bind (wp_val (a := ()) rfl (wp_bind (wp_val e4 (wp_bind (wp_val e6 (wp_ok q))))))))))))
theorem wp_fLc2 {vs vs1 : List Nat} {f f1 : SI} {g g1 : SG} {ft ft1 : SB} {fe : SE} {Q : D × List Cell → Prop} (h : wp (f r m) fun ds => wp (lc2S vs1 g ft f1 g1 ft1 fe (wipeR r vs) ds.1 [] ds.2) fun x => Q (.lst x.1, x.2)) : wp (fLc2 vs vs1 f g ft f1 g1 ft1 fe r m) Q := by
  obtain ⟨⟨ds, m1⟩, e1, ⟨xs, m2⟩, e2, q⟩ := h
  exact wp_bind (wp_val e1 (wp_bind (wp_val e2 (wp_ok q))))
end
end Nv
set_option Elab.async false
set_option linter.all false
set_option maxRecDepth 100000
set_option maxHeartbeats 4000000
namespace Nv
open PySem PySem.Spec PyProof.Rows L2
/-! ### Base.__init__(self, ..) within an exception's __init__ -/
/-- x names a class whose __init__ is the built-in initId -/
structure XBs (K : PySem.W.Frag) (mg : Str → Option Value) (x : Str) (initId : String) : Prop where
  nd : (x == ("__debug__" : Str)) = false
  hh : PySem.W.handedIn (.builtin initId) = true
  ex : (∃ C, mg x = some (.ref C) ∧ ClX.CRead K C (.type "type") ∧ PySem.W.findCls K (.ref C) (.type "type") "__init__" = some (.val (.builtin initId))) ∨
    (mg x = none ∧ x ≠ "__name__" ∧ ∃ T : String, bootBuiltins x = some (.type T) ∧ typeOf (.type T) = pure (.type "type") ∧ Manifest.isStub T = false ∧ PySem.W.findCls K (.type T) (.type "type") "__init__" = some (.val (.builtin initId)))
def tXi (K : PySem.W.Frag) (initId : String) (ta : TA) : TE := fun σ H Q => ta σ H fun vs H1 => ∃ (a C : Addr) (ws : List V) (B newId : String) (bmB : List Value), vs = .ref a :: ws ∧ ws.length ≤ 1000 ∧ XcB K C B newId initId bmB ∧ H1 a = some (exo a C none) ∧ Q .non H1
def tXst (K : PySem.W.Frag) (f : Str) (to te : TE) : TS := fun Dn σ H => te σ H fun y H1 => to σ H1 fun x H2 => ∃ (a C : Addr) (B newId initId : String) (bmB : List Value), x = .ref a ∧ XcB K C B newId initId bmB ∧ PySem.W.findIn K (.ref C) f = some none ∧
  ((H2 a = some (exo a C none) ∧ ∀ dx, H2 dx = none → dx ≠ a → Dn.nx σ (upd (upd H2 a (exo a C (some dx))) dx (exd dx [(f, y)]))) ∨
    ∃ (dx : Addr) (fs : List (Str × V)), H2 a = some (exo a C (some dx)) ∧ H2 dx = some (exd dx fs) ∧ fs.length ≤ 900 ∧ Dn.nx σ (upd H2 dx (exd dx ((f, y) :: fs))))
section
variable {X : Cx} {o e : Expr} {es : List Expr} {to te : TE} {ta : TA} {f x : Str} {p p' p1 p2 pos : Pos} {initId : String}
theorem pe_xi {pl : Sem Bool} (b : XBs X.K X.mg x initId) (hg : Gl X x) (ha : PA X (e :: es) ta)
    (hc : eval (.Call (.Attribute (.Name x p1) "__init__" p2) (e :: es) [] pos) X.env = (do
      let ov ← eval (.Name x p1) X.env
      standAt p2.atName
      let (f, first) ← holding [ov] (getMethod ov "__init__" pl)
      callWith pos f first (backTo pos (starEach (e :: es) X.env)) (backToKw pos (keywordEach [] X.env))) := by rfl)
    (he : starEach (e :: es) X.env = (false, eval e X.env) :: starEach es X.env := by rfl) (hpl : (backTo pos (starEach es X.env)).any (·.1) = false := by rfl) :
    PE X (.Call (.Attribute (.Name x p1) "__init__" p2) (e :: es) [] pos) (tXi X.K initId ta) := by
  refine ⟨fun pins s σ H Q I h => ?_⟩
  have tail : ∀ (s : Shared), Inv X pins σ H s → wpAny (model X.prog X.w) X.A (callWith pos (Value.builtin initId) [] (backTo pos (starEach (e :: es) X.env)) []) (EP X pins σ Q) X.xe s := fun s I => by
    refine PyProof.Rows.callWith_method1 (thn (ha.run pos pins _ σ H _ I h) fun us s1 ⟨vs, H1, I1, r1, a, C, ws, B, newId, bmB, ev, hl, T, ea, q⟩ => ?_) he hpl
    subst ev
    cases r1 with
    | @cons _ u0 _ ur ra rw' =>
      obtain rfl : u0 = Value.ref a := ra
      exact xinit_ok T I1 ea (by rw [← Paired.length rw', sizeLine_eq]; omega) fun s' J => ⟨.non, H1, J, rfl, q⟩
  rcases b.ex with ⟨C, hm, cr, hf⟩ | ⟨hm, hn, T, hv, ht, hs, hf⟩
  · refine PySem.W.methodCall_KW (pl := pl) (ld_glob I hg hm ?_ b.nd) hc
    exact PySem.W.method_cls I.kIn cr.ga (PySem.W.cls_value I.kIn cr.rd hf b.hh (tail _ (I.tok _)))
  · refine PySem.W.methodCall_KW (pl := pl) (ld_blt I hg hm hv ?_ hn b.nd) hc
    obtain ⟨m, fr⟩ := I.fr
    exact PySem.W.method_type fr I.ok.mod.kin ht hs hf b.hh (tail _ (I.tok _))
theorem ps_xst (ho : PE X o to) (he : PE X e te) (hs : swapsWith e (some (.Attribute o f p')) pos.line X.env = pure false := by rfl) : PS X (.Assign [.Attribute o f p'] e pos) (tXst X.K f to te) := by
  refine ⟨fun pins s σ H D I h => ?_⟩
  refine plainObj_wpAny_Assign_Attribute (thn (he.run pins s σ H _ I h) fun v s1 ⟨y, H1, I1, r1, q1⟩ => thn (ho.run pins s1 σ H1 _ I1 q1) fun u s2 ⟨z, H2, I2, r2, a, C, B, newId, initId, bmB, ex, T, hno, q⟩ => ?_) hs
  subst ex
  obtain rfl : u = Value.ref a := r2
  rcases q with ⟨ea, q⟩ | ⟨dx, fs, ea, ed, hl, q⟩
  · exact xst_new T I2 ea hno r1 fun dx s' n ne J => ⟨σ, _, J, q dx n ne⟩
  · exact xst_old T I2 ea ed hl hno r1 fun s' J => ⟨σ, _, J, q⟩
end
/-! ### the __init__ of such a class -/
abbrev tXcall (K : PySem.W.Frag) (initId : String) (tx : Str) : TS := tDrop (tXi K initId (tCons (tVar 0) (tCons (tC (.str tx)) tNil)))
abbrev tXbody0 (K : PySem.W.Frag) (initId : String) (tx : Str) : TS := tXcall K initId tx
/-- what it leaves: the fields stored, one after the other -/
def XOut (H : Hp) (a C : Addr) (fs : List (Str × V)) (Q : Hp → Prop) : Prop := match fs with
  | [] => Q (upd H a (exo a C none))
  | _ => ∀ dx, H dx = none → dx ≠ a → Q (upd (upd H a (exo a C (some dx))) dx (exd dx fs.reverse))
def SpXI (K : PySem.W.Frag) (initId : String) (fns : List Str) : Sp := fun vs H Q _ => ∃ (a C : Addr) (ys : List V) (B newId : String) (bmB : List Value), vs = .ref a :: ys ∧ ys.length = fns.length ∧ XcB K C B newId initId bmB ∧
  (∀ f ∈ fns, PySem.W.findIn K (.ref C) f = some none) ∧ H a = some (exo a C none) ∧ XOut H a C (fns.zip ys) fun H' => Q .non H'
theorem SpXI.len {K : PySem.W.Frag} {initId : String} {fns : List Str} {vs : List V} {H : Hp} {Q : VK} {E : XK} (h : SpXI K initId fns vs H Q E) : vs.length = fns.length + 1 := by
  obtain ⟨a, C, ys, _, _, _, rfl, e, _⟩ := h
  rw [List.length_cons, e]
section
variable {P : Program} {w : World} {K : PySem.W.Frag} {mg : Str → Option Value} {base : Heap} {st : Stmt} {f : Addr} {fd : FuncData} {qual sf x p1 p2 f1 f2 tx : Str} {initId : String} {j : Option Str} {q1 q2 q3 q4 q5 q6 q7 q8 q9 q10 q11 q12 q13 q14 : Pos}
theorem ok_xinit0 {N : List Str} {k : Nat} (F : Fun K "__init__" qual st f fd) (S : FnScope N [sf] (defScope st)) (hN : N.length = 1)
    (hp : ∀ cdv A outer s H E, PSs (cxOf CX0 P w K mg base N qual (defScope st) f cdv A outer s H E).nox (defBody st) (tXbody0 K initId tx)) : FnG P w K mg base (k + 1) f fd [sf] (SpXI K initId []) := by
  refine Nv.Fun.okG F S (fun vs H Q E h => by have z := SpXI.len h; simpa using z) fun cdv A outer s H vs Q E hr h => ⟨_, hp .., ?_⟩
  obtain ⟨a, C, ys, B, newId, bmB, rfl, hl, T, hf, ha, out⟩ := h
  cases ys with
  | cons _ _ => cases hl
  | nil =>
    refine ⟨.ref a, by rfl, a, C, [.str tx], B, newId, bmB, rfl, by simp, T, ha, ?_⟩
    have eq : upd H a (exo a C none) = H := by
      funext b
      by_cases hb : b = a
      · subst hb; rw [upd_same, ha]
      · rw [upd_ne hb]
    have z : Q .non (upd H a (exo a C none)) := out
    rw [eq] at z
    exact z
abbrev tXbody1 (K : PySem.W.Frag) (initId : String) (tx f1 : Str) : TS := tSeq (tXcall K initId tx) (tXst K f1 (tVar 0) (tVar 1))
theorem ok_xinit1 {N : List Str} {k : Nat} (F : Fun K "__init__" qual st f fd) (S : FnScope N [sf, p1] (defScope st)) (hN : N.length = 2)
    (hp : ∀ cdv A outer s H E, PSs (cxOf CX0 P w K mg base N qual (defScope st) f cdv A outer s H E).nox (defBody st) (tXbody1 K initId tx f1)) : FnG P w K mg base (k + 1) f fd [sf, p1] (SpXI K initId [f1]) := by
  refine Nv.Fun.okG F S (fun vs H Q E h => by have z := SpXI.len h; simpa using z) fun cdv A outer s H vs Q E hr h => ⟨_, hp .., ?_⟩
  obtain ⟨a, C, ys, B, newId, bmB, rfl, hl, T, hf, ha, out⟩ := h
  match ys, hl with
  | [y], _ =>
    refine ⟨.ref a, by rfl, a, C, [.str tx], B, newId, bmB, rfl, by simp, T, ha, ?_⟩
    exact ⟨y, by rfl, .ref a, by rfl, a, C, B, newId, initId, bmB, rfl, T, hf f1 (by simp), .inl ⟨ha, fun dx n ne => out dx n ne⟩⟩
abbrev tXbody2 (K : PySem.W.Frag) (initId : String) (tx f1 f2 : Str) : TS := tSeq (tXcall K initId tx) (tSeq (tXst K f1 (tVar 0) (tVar 1)) (tXst K f2 (tVar 0) (tVar 2)))
theorem ok_xinit2 {N : List Str} {k : Nat} (F : Fun K "__init__" qual st f fd) (S : FnScope N [sf, p1, p2] (defScope st)) (hN : N.length = 3)
    (hp : ∀ cdv A outer s H E, PSs (cxOf CX0 P w K mg base N qual (defScope st) f cdv A outer s H E).nox (defBody st) (tXbody2 K initId tx f1 f2)) : FnG P w K mg base (k + 1) f fd [sf, p1, p2] (SpXI K initId [f1, f2]) := by
  refine Nv.Fun.okG F S (fun vs H Q E h => by have z := SpXI.len h; simpa using z) fun cdv A outer s H vs Q E hr h => ⟨_, hp .., ?_⟩
  obtain ⟨a, C, ys, B, newId, bmB, rfl, hl, T, hf, ha, out⟩ := h
  match ys, hl with
  | [y, z], _ =>
    refine ⟨.ref a, by rfl, a, C, [.str tx], B, newId, bmB, rfl, by simp, T, ha, ?_⟩
    refine ⟨y, by rfl, .ref a, by rfl, a, C, B, newId, initId, bmB, rfl, T, hf f1 (by simp), .inl ⟨ha, fun dx n ne => ?_⟩⟩
    refine ⟨z, by rfl, .ref a, by rfl, a, C, B, newId, initId, bmB, rfl, T, hf f2 (by simp), .inr ⟨dx, [(f1, y)], ?_, upd_same, by simp, ?_⟩⟩
    · rw [upd_ne (Ne.symm ne), upd_same]
    · rw [upd_upd]
      exact out dx n ne
end
end Nv
set_option Elab.async false
set_option linter.all false
set_option maxRecDepth 100000
set_option maxHeartbeats 4000000
namespace Nv
open PySem PySem.Spec PyProof.Rows L2
/-! ### C(.., k = v, ..) of such a class: BaseException.__new__, then its own __init__, with keywords -/
section
variable {M : Model} {A : Around} {E : Value → Shared → Prop} {h : Heap} {g : Array GenState} {d : Drawn} {t : Nat} {os : OsState}
variable {nm q : Str} {C N : Addr} {bs bm bmB : List Value} {hdct : Bool} {sn : List Str} {sub : List Value} {ab : Bool} {col : Option Bool} {dd : Option Addr} {k0 k1 k2 k3 k5 : Option Value} {B newId initId : String} {rest : List Value} {kw : List (Str × Value)}
theorem xcheck (F : ExcBaseFacts B newId initId bmB) (hB : bm.contains (.type B) = true) (hA : bm.contains (.type "AttributeError") = false) (hN : bm.contains (.type "NameError") = false) {Q : Unit → Shared → Prop}
    (hC : h.get? C = some (excClassObj nm q C N bs bm hdct sn sub ab col dd k0 k1 k2 k3 k5 newId)) (hq : Q () ⟨h, g, d, t, os⟩) : wpAny M A (checkBuiltinCall newId ⟨.ref C :: rest, kw⟩) Q E ⟨h, g, d, t, os⟩ := by
  have own : (Value.ref C :: bm).contains (.type B) = true := by rw [List.contains_cons, hB, Bool.or_true]
  have nostar := F.noStar
  simp only [checkBuiltinCall, F.newKind, F.newSplit, F.newRow]
  repeat (first | refine wpAny_loadPart_at hC ?_ | (refine wpAny_isSubtype_exc hC ?_; rw [own]) | refine wpAny_staticBase_exc hC ?_ | refine wpAny_madeBy_exc hC ?_ | simp only [bne_self_eq_false, Bool.false_eq_true, if_false] | wp_step)
  exact hq
end
section
variable {prog : Program} {w : World} {A : Around} {E : Value → Shared → Prop} {R : Result → Shared → Prop} {h : Heap} {g : Array GenState} {d : Drawn} {t : Nat} {os : OsState}
variable {nm q : Str} {C N : Addr} {bs bm bmB : List Value} {hdct : Bool} {sn : List Str} {sub : List Value} {ab : Bool} {col : Option Bool} {dd : Option Addr} {k0 k1 k2 k3 k5 : Option Value} {B newId initId : String} {rest : List Value} {kw : List (Str × Value)}
theorem xnew (F : ExcBaseFacts B newId initId bmB) (hB : bm.contains (.type B) = true) (hA : bm.contains (.type "AttributeError") = false) (hN : bm.contains (.type "NameError") = false)
    (hC : h.get? C = some (excClassObj nm q C N bs bm hdct sn sub ab col dd k0 k1 k2 k3 k5 newId)) (hrest : rest.length ≤ sizeLine)
    (hq : R (.ok (.ret (.ref (h.objs.size + 1)))) ⟨(h.push (PySem.W.kdv_tup rest)).push (PySem.HandSPX.excO C h.objs.size), g, d, t, os⟩) :
    codeAny (model prog w) A (.builtin newId ⟨.ref C :: rest, kw⟩) R ⟨h, g, d, t, os⟩ := by
  have last := F.ends
  have inB : (Value.ref C :: bm).contains (.type B) = true := by rw [List.contains_cons, hB, Bool.or_true]
  have inA : (Value.ref C :: bm).contains (.type "AttributeError") = false := by rw [List.contains_cons, hA]; rfl
  have inN : (Value.ref C :: bm).contains (.type "NameError") = false := by rw [List.contains_cons, hN]; rfl
  refine codeAny_builtinAt F.entry ?_
  unfold Builtin.«BaseException.__new__»
  refine PySem.wpAt_bind ?_
  show PySem.wpAt _ _ _ (stack >>= _) _ _ _
  refine PySem.wpAt_bind (PySem.wpAt_stack fun p below => PySem.wpAt_of_wpAny ?_)
  wp_walk
  refine PySem.wpAt_of_wpAny ?_
  rw [F.owner]
  repeat (first | with_reducible refine wpAny_madeHere_exc F.canon hC ?_ | with_reducible refine wpAny_loadPart_at hC ?_ | (with_reducible refine wpAny_isSubtype_exc hC ?_; first | rw [inB] | rw [inA] | rw [inN]) | wp_step)
  show R _ _
  rw [Heap.size_push]
  exact hq
theorem xtype (F : ExcBaseFacts B newId initId bmB) (hB : bm.contains (.type B) = true) (hA : bm.contains (.type "AttributeError") = false) (hN : bm.contains (.type "NameError") = false) {fI : Addr} {Q : PySem.Fin → Shared → Prop}
    (hC : h.get? C = some (excClassObj nm q C N bs bm hdct sn sub ab col dd k0 k1 k2 k3 k5 newId))
    (hi : PySem.W.Looks (model prog w) h (typeLookup (.ref C) "__init__") (some (.ref fI))) (hb : ∀ self, PySem.W.Looks (model prog w) h (bindSpecial (.ref fI) self) (.ref fI, [self])) (hrest : rest.length ≤ sizeLine)
    (hq : codeAny (model prog w) A (.call (.ref fI) ⟨.ref (h.objs.size + 1) :: rest, kw⟩)
      (fun r s' => match r with | .ok (.ret v) => v = .none ∧ Q (.done (.ret (.ref (h.objs.size + 1)))) s' | .ok _ => False | .error e => E e s')
      ⟨(h.push (PySem.W.kdv_tup rest)).push (PySem.HandSPX.excO C h.objs.size), g, d, t, os⟩) :
    wpAny (model prog w) A (Builtin.«type.__call__» ⟨.ref C :: rest, kw⟩) Q E ⟨h, g, d, t, os⟩ := by
  repeat (first | with_reducible refine wpAny_loadPart_at hC ?_ | with_reducible refine wpAny_madeBy_exc hC ?_ | wp_step)
  refine codeAny_call_builtin_code (Code.quiet_builtin _ F.quiet) (xcheck F hB hA hN hC ?_)
  refine xnew F hB hA hN hC hrest ?_
  show wpAny _ _ _ _ _ _
  have keeps : ∀ b o, h.get? b = some o → ((h.push (PySem.W.kdv_tup rest)).push (PySem.HandSPX.excO C h.objs.size)).get? b = some o := fun b o e => Heap.get?_push_of_some _ (Heap.get?_push_of_some _ e)
  have hC1 := keeps _ _ hC
  have here : ((h.push (PySem.W.kdv_tup rest)).push (PySem.HandSPX.excO C h.objs.size)).get? (h.objs.size + 1) = some (PySem.HandSPX.excO C h.objs.size) := by heap_get
  have self : (Value.ref C :: bm).contains (.ref C) = true := by simp
  have i1 := hi.keeps keeps
  have b1 := (hb (.ref (h.objs.size + 1))).keeps keeps
  unfold isInstance
  repeat (first | with_reducible refine wpAny_loadPart_at here ?_ | (with_reducible refine wpAny_isSubtype_exc hC1 ?_; rw [self]) | wp_step)
  show wpAny _ _ (typeLookup (.ref C) _) _ _ _
  refine i1.at (wpAny_holding (wpAny_bind (b1.at (wpAny_bind (wpAny_call (codeAny_mono hq fun r s' z => ?_))))))
  rcases r with e | (v | _ | _ | _) <;> first | exact z | exact z.elim | skip
  obtain ⟨rfl, z⟩ := z
  first
    | exact wpAny_pure (wpAny_pure z)
    | (wp_walk; exact z)
theorem xcall (F : ExcBaseFacts B newId initId bmB) (hB : bm.contains (.type B) = true) (hA : bm.contains (.type "AttributeError") = false) (hN : bm.contains (.type "NameError") = false) {fI : Addr}
    (hC : h.get? C = some (excClassObj nm q C N bs bm hdct sn sub ab col dd k0 k1 k2 k3 k5 newId))
    (hi : PySem.W.Looks (model prog w) h (typeLookup (.ref C) "__init__") (some (.ref fI))) (hb : ∀ self, PySem.W.Looks (model prog w) h (bindSpecial (.ref fI) self) (.ref fI, [self])) (hrest : rest.length ≤ sizeLine)
    (hq : codeAny (model prog w) (A.under (.builtin "type.__call__" ⟨.ref C :: rest, kw⟩)) (.call (.ref fI) ⟨.ref (h.objs.size + 1) :: rest, kw⟩) (PySem.W.InitBack (h.objs.size + 1) R)
      ⟨(h.push (PySem.W.kdv_tup rest)).push (PySem.HandSPX.excO C h.objs.size), g, d, t, os⟩) :
    codeAny (model prog w) A (.call (.ref C) ⟨rest, kw⟩) R ⟨h, g, d, t, os⟩ := by
  have f1 := PySem.tc_lookup
  have f2 := PySem.tc_bind (.ref C)
  have hTy : (⟨h, g, d, t, os⟩ : Shared).TypeIs (.ref C) "type" := ⟨_, hC, rfl⟩
  refine codeAny_of_tree ?_
  show wpAny _ _ (callAny (.ref C) _) _ _ _
  repeat (any_goals (first | assumption | with_reducible refine wpAny_loadPart_at hC ?_ | wp_step))
  refine ⟨rfl, ?_⟩
  refine codeAny_call_builtin_at (Code.quiet_builtin _ (by decide +kernel)) PySem.entry_typeCall (wpAny_check_type_call_sub hC (xtype F hB hA hN hC hi hb hrest ?_))
  refine codeAny_mono hq fun r s' z => ?_
  rcases r with e | (v | _ | _ | _) <;> exact z
end
end Nv
set_option Elab.async false
set_option linter.all false
set_option maxRecDepth 100000
set_option maxHeartbeats 4000000
namespace Nv
open PySem PySem.Spec PyProof.Rows L2
/-! ### keyword-only parameters -/
structure KDf (K : PySem.W.Frag) (kV : Value) (dd : List (Str × D)) : Prop where
  ex : ∃ Dd : Addr, kV = .ref Dd ∧ ∀ q ∈ dd, ∃ u v, PySem.W.nsIn K Dd q.1 = some (some u) ∧ RelV v u ∧ ∀ (cl : Cl) (F : Hp), Rep ⟨K, cl⟩ F q.2 v
structure FunK (K : PySem.W.Frag) (x qual : Str) (st : Stmt) (dd : List (Str × D)) (f : Addr) (fd : FuncData) : Prop where
  ex : ∃ (oc : Value) (od : Option Addr) (kV doc pm : Value) (an : Option Addr) (cdv ct : Value) (osl : Array (Option Value)),
    fd = PySem.W.fnOf x qual (defArgs st) (defBody st) (defScope st) .none kV doc pm an cdv ct ∧ K.lookup f = some ⟨oc, od, .func fd, osl⟩ ∧ PySem.W.codeIn K cdv qual = true ∧ KDf K kV dd
  kp : PySem.W.keepIn K (.ref f) = true
theorem FunK.fn {K : PySem.W.Frag} {x qual : Str} {st : Stmt} {dd : List (Str × D)} {f : Addr} {fd : FuncData} (F : FunK K x qual st dd f fd) : Fun K x qual st f fd := by
  obtain ⟨oc, od, kV, doc, pm, an, cdv, ct, osl, e, l, c, _⟩ := F.ex
  exact ⟨⟨oc, od, kV, doc, pm, an, cdv, ct, osl, e, l, c⟩, F.kp⟩
/-- n values, keywords ks, ms lack -/
def KBind (x qual : Str) (st : Stmt) (ps : List Str) (n : Nat) (ks ms : List Str) (perm : List Nat) : Prop :=
  ∀ (Dd : Addr) (doc pm : Value) (an : Option Addr) (cdv ct : Value) (us ws mv : List Value), us.length = n → ws.length = ks.length → mv.length = ms.length →
    KwChain Dd (ms.zip mv) (bindArgs (PySem.W.fnOf x qual (defArgs st) (defBody st) (defScope st) .none (.ref Dd) doc pm an cdv ct) ⟨us, ks.zip ws⟩) (ps.zip (permL perm (us ++ (ws ++ mv))))
theorem kdf_vals {K : PySem.W.Frag} {Dd : Addr} : ∀ {md : List (Str × D)}, (∀ q ∈ md, ∃ u v, PySem.W.nsIn K Dd q.1 = some (some u) ∧ RelV v u ∧ ∀ (cl : Cl) (F : Hp), Rep ⟨K, cl⟩ F q.2 v) →
    ∃ (mv : List Value) (mz : List V), mv.length = md.length ∧ Vals mz mv ∧ (∀ (cl : Cl) (F : Hp), Reps ⟨K, cl⟩ F (md.map (·.2)) mz) ∧ ∀ q ∈ (md.map (·.1)).zip mv, PySem.W.nsIn K Dd q.1 = some (some q.2)
  | [], _ => ⟨[], [], rfl, .nil, fun _ _ => rfl, fun q hq => by cases hq⟩
  | m :: ms, h => by
    obtain ⟨u, v, e1, e2, e3⟩ := h m (List.mem_cons_self ..)
    obtain ⟨us, vs, l, r, a, b⟩ := kdf_vals (md := ms) fun q hq => h q (List.mem_cons_of_mem _ hq)
    refine ⟨u :: us, v :: vs, congrArg Nat.succ l, .cons e2 r, fun cl F => ⟨v, vs, rfl, e3 cl F, a cl F⟩, fun q hq => ?_⟩
    rcases List.mem_cons.mp (show q ∈ (m.1, u) :: (ms.map (·.1)).zip us from hq) with e | hq
    · rw [e]; exact e1
    · exact b q hq
theorem FunK.binds {K : PySem.W.Frag} {x qual : Str} {st : Stmt} {dd md : List (Str × D)} {f : Addr} {fd : FuncData} {ps ks : List Str} {n : Nat} {perm : List Nat} (F : FunK K x qual st dd f fd)
    (hb : KBind x qual st ps n ks (md.map (·.1)) perm) (hm : ∀ q ∈ md, q ∈ dd) :
    ∃ (mv : List Value) (mz : List V), Vals mz mv ∧ (∀ (cl : Cl) (F : Hp), Reps ⟨K, cl⟩ F (md.map (·.2)) mz) ∧
      ∀ (s : Shared) (us ws : List Value), K.In s.heap → us.length = n → ws.length = ks.length → BindsTo s fd ⟨us, ks.zip ws⟩ (ps.zip (permL perm (us ++ (ws ++ mv)))) := by
  obtain ⟨oc, od, kV, doc, pm, an, cdv, ct, osl, rfl, l, c, k⟩ := F.ex
  obtain ⟨Dd, rfl, hq⟩ := k.ex
  obtain ⟨mv, mz, hl, r, a, b⟩ := kdf_vals (md := md) fun q h => hq q (hm q h)
  refine ⟨mv, mz, r, a, fun s us ws X h1 h2 => L2.BindsTo.of_looks fun M => KwChain.looks X b ?_⟩
  exact hb Dd doc pm an cdv ct us ws mv h1 h2 (by rw [hl, List.length_map])
theorem Reps.perm {T : Tab} {F : Hp} {ds : List D} {vs : List V} (h : Reps T F ds vs) : ∀ (perm : List Nat), Reps T F (permL perm ds) (permL perm vs)
  | [] => rfl
  | i :: perm => by
    have get : ∀ {ds : List D} {vs : List V} (i : Nat), Reps T F ds vs → (∃ s v, ds[i]? = some s ∧ vs[i]? = some v ∧ Rep T F s v) ∨ (ds[i]? = none ∧ vs[i]? = none) := by
      intro ds
      induction ds with
      | nil => intro vs i h; cases h; exact .inr ⟨by simp, by simp⟩
      | cons d ds ih =>
        intro vs i h
        obtain ⟨v, r, e, z, t⟩ := h
        subst e
        cases i with
        | zero => exact .inl ⟨d, v, rfl, rfl, z⟩
        | succ i => simpa using ih i t
    unfold permL
    rw [List.filterMap_cons, List.filterMap_cons]
    rcases get i h with ⟨s, v, e1, e2, z⟩ | ⟨e1, e2⟩
    · rw [e1, e2]; exact ⟨v, _, rfl, z, h.perm perm⟩
    · rw [e1, e2]; exact h.perm perm
section
variable {cl : Cl} {X : Cx} {o e value : Expr} {es : List Expr} {f x mn qual : Str} {st : Stmt} {kws : List Keyword} {pos pos' apos p : Pos} {cs : List Nat} {fo fv : SE} {fa fk : SA} {k c n : Nat} {fd : FuncData} {ps ks : List Str} {gs : GS} {ga pa : Addr} {sp : Sp} {dd md : List (Str × D)} {perm : List Nat}
/-- C.m(e, .., k = v, ..) -/
def sCmK (c n nk np : Nat) (perm : List Nat) (md : List D) (gs : GS) (fo : SE) (fa fk : SA) : SE := fun r m => do
  let (o, m1) ← fo r m
  match o with
  | .val (.cls c') => if c' = c then (do
    let (ss, m3) ← fa r m1
    let (ks, m4) ← fk r m3
    let (ds, m5) ← toDs (ss ++ ks) m4
    if ss.length + 1 = n ∧ ks.length = nk ∧ (permL perm (.cls c :: ds ++ md)).length = np then gs (permL perm (.cls c :: ds ++ md)) m5 else .bad) else .bad
  | _ => .bad
end
end Nv
set_option Elab.async false
set_option linter.all false
set_option maxRecDepth 100000
set_option maxHeartbeats 4000000
namespace Nv
open PySem PySem.Spec PyProof.Rows L2
theorem ite_bad {A : Type} {c : Prop} [Decidable c] {x : Out A} {b : A} (h : (if c then x else .bad) = .ok b) : c ∧ x = .ok b := by
  by_cases q : c
  · rw [if_pos q] at h; exact ⟨q, h⟩
  · rw [if_neg q] at h; cases h
/-! ### a class called with a star and keywords -/
theorem RepF.zip {T : Tab} {F : Hp} : ∀ {kn : List Str} {ds : List D} {vs : List V}, Reps T F ds vs → kn.length = ds.length → RepF T F (kn.zip ds) (kn.zip vs)
  | [], ds, vs, h, e => by cases ds with
    | nil => cases h; rfl
    | cons _ _ => cases e
  | k :: kn, [], _, h, e => by cases e
  | k :: kn, d :: ds, _, ⟨v, r, e2, z, t⟩, e => by
    subst e2
    exact ⟨v, _, rfl, z, RepF.zip t (by simpa using e)⟩
theorem KwR.zip {kn : List Str} : ∀ {zs : List V} {ws : List Value}, Vals zs ws → zs.length = kn.length → KwR (kn.zip zs) (kn.zip ws) := by
  induction kn with
  | nil => intro zs ws r e; cases r <;> first | exact KwR.nil | cases e
  | cons k kn ih =>
    intro zs ws r e
    cases r with
    | nil => cases e
    | cons a b =>
      have := ih b (by simpa using e)
      exact ⟨by simp [this.nm], .cons a this.vl⟩
section
variable {cl : Cl} {X : Cx} {e e3 fe : Expr} {es : List Expr} {kws : List Keyword} {x : Str} {pos p kp : Pos} {cs : List Nat} {kn : List Str} {ff : SE} {fa fk : SA} {k c : Nat} {f : Addr} {g : InitF}
/-- f(e, .., k = v, ..), f a class; stars behind the first value -/
def sNewVK (cs : List Nat) (kn : List Str) (g : InitF) (ff : SE) (fa fk : SA) : SE := fun r m => do
  let (o, m0) ← ff r m
  match o with
  | .val (.cls c) => if c ∈ cs then (do
    let (ss, m1) ← fa r m0
    let (ks, m2) ← fk r m1
    let (ds, m3) ← toDs ss m2
    let (kd, m4) ← toDs ks m3
    if kn.length = kd.length then (do
      let fs ← g c ds (kn.zip kd)
      .ok (.val (.ins c fs), m4)) else .bad) else .bad
  | _ => .bad
end
/-! ### def __init__(self, a, .., *v, k = .., ..), all keywords written, in their order -/
end Nv
set_option Elab.async false
set_option linter.all false
set_option maxRecDepth 100000
set_option maxHeartbeats 4000000
namespace Nv
open PySem PySem.Spec PyProof.Rows L2
/-! ### sets of texts -/
def putS (l : List Str) (x : Str) : List Str := if x ∈ l then l else x :: l
def setS (xs : List Str) : List Str := xs.foldl putS []
def keyT (e : Int × Value) : Str := match e.2 with
  | .str x _ => x
  | _ => Str.empty
section
variable {P : Program} {w : World}
def OkT (P : Program) (w : World) (e : Int × Value) : Prop := ∃ x tk, e.2 = Value.str x tk ∧ e.1 = (PySem.strKind P w).hash x
structure TSet (P : Program) (w : World) (h : Heap) (a : Addr) (l : List Str) : Prop where
  ex : ∃ o vs ep t, h.get? a = some o ∧ o.ExactSet ∧ o.data = .set vs ep t ∧ (∀ e ∈ vs.toList, OkT P w e) ∧ (vs.toList.map keyT).Perm l ∧ vs.size < scanBound ∧ t.fits vs.size = true ∧ L2.Ris t.place.toList ∧ (w.params.followText "set-order" = true ∨ t.led = true)
  nd : l.Nodup
theorem TSet.at {h h' : Heap} {a : Addr} {l : List Str} (T : TSet P w h a l) (k : ∀ o, h.get? a = some o → h'.get? a = some o) : TSet P w h' a l := by
  obtain ⟨o, vs, ep, t, ho, r⟩ := T.ex
  exact ⟨⟨o, vs, ep, t, k o ho, r⟩, T.nd⟩
end
end Nv
set_option Elab.async false
set_option linter.all false
set_option maxRecDepth 100000
set_option maxHeartbeats 4000000
namespace Nv
open PySem PySem.Spec PyProof.Rows L2
end Nv
set_option Elab.async false
set_option linter.all false
set_option maxRecDepth 100000
set_option maxHeartbeats 4000000
namespace Nv
open PySem PySem.Spec PyProof.Rows L2
end Nv
set_option Elab.async false
set_option linter.all false
set_option maxRecDepth 100000
set_option maxHeartbeats 4000000
namespace Nv
open PySem PySem.Spec PyProof.Rows L2
def seqStrs : D → Option (List Str)
  | .lst ds => strsOf ds
  | .tup ds => strsOf ds
  | _ => none
section
variable {cl : Cl} {X : Cx}
def sSetLen (f : SE) : SE := fun r m => do
  let (s, m1) ← f r m
  let d ← view m1 s
  match seqStrs d with
  | some xs => if xs.length + 1 < scanBound then .ok (.val (.int (setS xs).length), m1) else .bad
  | none => .bad
def sSetSorted (f : SE) : SF := fun r m => do
  let (s, m1) ← f r m
  let d ← view m1 s
  match seqStrs d with
  | some xs => if xs.length < 64 then .ok (.lst ((sortS (setS xs)).map .str), m1) else .bad
  | none => .bad
/-! ### a table of the module, by texts -/
def sTab (tb : List (Str × D)) (f : SE) : SE := fun r m => do
  let (s, m1) ← f r m
  let d ← view m1 s
  match d with
  | .str x => match tb.lookup x with
    | some d' => .ok (.val d', m1)
    | none => .bad
  | _ => .bad
theorem lookup_mem {A B : Type} [BEq A] [LawfulBEq A] {l : List (A × B)} {a : A} {b : B} : l.lookup a = some b → (a, b) ∈ l := by
  induction l with
  | nil => intro h; cases h
  | cons q l ih =>
    intro h
    obtain ⟨c, d⟩ := q
    rw [List.lookup_cons] at h
    by_cases z : (a == c) = true
    · rw [z] at h
      cases h
      rw [beq_iff_eq.mp z]
      exact List.mem_cons_self
    · rw [Bool.eq_false_iff.mpr z] at h
      exact List.mem_cons_of_mem _ (ih h)
/-! ### x or y, x a list or tuple -/
def truD : D → Option Bool
  | .lst ds => some (!ds.isEmpty)
  | .tup ds => some (!ds.isEmpty)
  | _ => none
def sOrV (f g : SE) : SE := fun r m => do
  let (s, m1) ← f r m
  let d ← view m1 s
  match truD d with
  | some b => if b = true then .ok (s, m1) else g r m1
  | none => .bad
end
end Nv
set_option Elab.async false
set_option linter.all false
set_option maxRecDepth 100000
set_option maxHeartbeats 4000000
namespace Nv
open PySem PySem.Spec PyProof.Rows L2
section
variable {cl : Cl} {X : Cx}
/-! ### isinstance of a class of the program -/
def sIsiC (tb : List (Nat × Bool)) (f : SE) : SE := fun r m => do
  let (s, m1) ← f r m
  let d ← view m1 s
  match d with
  | .ins c _ => match tb.lookup c with
    | some b => .ok (.val (.bl b), m1)
    | none => .bad
  | _ => .bad
/-! ### isinstance(x, (T, U)) -/
def dIsi2 (T U : String) (d : D) : Out D := match tyName d with
  | some n => match kitB n T, kitB n U with
    | some b, some c => .ok (.bl (b || c))
    | _, _ => .bad
  | none => .bad
def sIsi2 (T U : String) (f : SE) : SE := fun r m => do
  let (s, m1) ← f r m
  let d ← view m1 s
  let b ← dIsi2 T U d
  .ok (.val b, m1)
/-! ### a def that stands in a table, called through a variable -/
def sCallT (tb : List (Nat × Fn)) (ff : SE) (fa : SA) : SE := fun r m => do
  let (o, m0) ← ff r m
  match o with
  | .val (.cls c) => match tb.lookup c with
    | some g => (do
      let (ss, m1) ← fa r m0
      let (ds, m2) ← toDs ss m1
      if ds.length = 1 then gsD g ds m2 else .bad)
    | none => .bad
  | _ => .bad
end
end Nv
set_option Elab.async false
set_option linter.all false
set_option maxRecDepth 100000
set_option maxHeartbeats 4000000
namespace Nv
open PySem PySem.Spec PyProof.Rows L2
/-! ### what a head tells of tables and of keyword-only defaults -/
section
variable {K : PySem.W.Frag} {w : World} {x k mn qual : Str} {a f q : Addr} {st : Stmt} {cl : Cl} {c : Nat} {i : Int}
structure TabI (K : PySem.W.Frag) (a : Addr) (k : Str) (i : Int) : Prop where
  ex : ∃ t, PySem.W.nsIn K a k = some (some (.int i t))
theorem TabI.val (T : TabI K a k i) : ∃ u v, PySem.W.nsIn K a k = some (some u) ∧ RelV v u ∧ ∀ (F : Hp), Rep ⟨K, cl⟩ F (.int i) v := by
  obtain ⟨t, h⟩ := T.ex
  exact ⟨_, .int i, h, ⟨t, rfl⟩, fun _ => rfl⟩
structure MetAtK (K : PySem.W.Frag) (mn qual : Str) (st : Stmt) (f q : Addr) : Prop where
  ex : ∃ (oc : Value) (od : Option Addr) (dc pm : Value) (an : Option Addr) (cd ct : Value) (sl : Array (Option Value)),
    K.lookup f = some ⟨oc, od, .func (PySem.W.fnOf mn qual (defArgs st) (defBody st) (defScope st) .none (.ref q) dc pm an cd ct), sl⟩ ∧ PySem.W.codeIn K cd qual = true ∧ PySem.W.keepIn K (.ref f) = true
theorem MetAtK.fn {dd : List (Str × D)} (M : MetAtK K mn qual st f q) (h : ∀ p ∈ dd, ∃ u v, PySem.W.nsIn K q p.1 = some (some u) ∧ RelV v u ∧ ∀ (cl : Cl) (F : Hp), Rep ⟨K, cl⟩ F p.2 v) : ∃ fd : FuncData, FunK K mn qual st dd f fd := by
  obtain ⟨oc, od, dc, pm, an, cd, ct, sl, l, c, k⟩ := M.ex
  exact ⟨_, ⟨oc, od, _, dc, pm, an, cd, ct, sl, rfl, l, c, q, rfl, h⟩, k⟩
structure KwE (K : PySem.W.Frag) (q : Addr) (k : Str) : Prop where
  ex : ∃ (e : Addr) (od : Option Addr) (n : Nat) (sl : Array (Option Value)), PySem.W.nsIn K q k = some (some (.ref e)) ∧ K.lookup e = some ⟨.type "tuple", od, .seq #[] n, sl⟩
theorem KwE.val (E : KwE K q k) : ∃ u v, PySem.W.nsIn K q k = some (some u) ∧ RelV v u ∧ ∀ (cl : Cl) (F : Hp), Rep ⟨K, cl⟩ F (.tup []) v := by
  obtain ⟨e, od, n, sl, g, l⟩ := E.ex
  refine ⟨_, .ref e, g, rfl, fun cl F => ?_⟩
  simp only [Rep]
  exact ⟨e, [], rfl, .inr ⟨_, #[], n, l, rfl, rfl, Nat.zero_le _, .nil⟩, rfl⟩
end
end Nv
set_option Elab.async false
set_option linter.all false
set_option maxRecDepth 100000
set_option maxHeartbeats 4000000
namespace Nv
open PySem PySem.Spec PyProof.Rows L2
section
variable {r : List Sl} {m : List Cell} {cs : List Nat} {f fo ff g : SE} {fa fk : SA} {gs : GS} {c n nk np : Nat} {perm : List Nat} {md : List D} {kn : List Str}
theorem wp_setLen {Q : Sl × List Cell → Prop} (h : wp (f r m) fun s => wp (view s.2 s.1) fun d => ∃ xs, seqStrs d = some xs ∧ xs.length + 1 < scanBound ∧ Q (.val (.int (setS xs).length), s.2)) : wp (sSetLen f r m) Q := by
  obtain ⟨⟨s, m1⟩, e, d, e2, xs, h1, h2, q⟩ := h
  refine wp_bind (wp_val e (wp_bind (wp_val e2 ?_)))
  simp only [h1, h2, if_true]
  exact wp_ok q
theorem wp_setSorted {Q : D × List Cell → Prop} (h : wp (f r m) fun s => wp (view s.2 s.1) fun d => ∃ xs, seqStrs d = some xs ∧ xs.length < 64 ∧ Q (.lst ((sortS (setS xs)).map .str), s.2)) : wp (sSetSorted f r m) Q := by
  obtain ⟨⟨s, m1⟩, e, d, e2, xs, h1, h2, q⟩ := h
  refine wp_bind (wp_val e (wp_bind (wp_val e2 ?_)))
  simp only [h1, h2, if_true]
  exact wp_ok q
theorem wp_tab {tb : List (Str × D)} {Q : Sl × List Cell → Prop} (h : wp (f r m) fun s => wp (view s.2 s.1) fun d => ∃ x d', d = .str x ∧ tb.lookup x = some d' ∧ Q (.val d', s.2)) : wp (sTab tb f r m) Q := by
  obtain ⟨⟨s, m1⟩, e, d, e2, x, d', rfl, h2, q⟩ := h
  refine wp_bind (wp_val e (wp_bind (wp_val e2 ?_)))
  simp only [h2]
  exact wp_ok q
theorem wp_orV {Q : Sl × List Cell → Prop} (h : wp (f r m) fun s => wp (view s.2 s.1) fun d => ∃ b, truD d = some b ∧ (b = true → Q s) ∧ (b = false → wp (g r s.2) Q)) : wp (sOrV f g r m) Q := by
  obtain ⟨⟨s, m1⟩, e, d, e2, b, h1, h2, h3⟩ := h
  refine wp_bind (wp_val e (wp_bind (wp_val e2 ?_)))
  simp only [h1]
  cases b with
  | true => exact wp_ok (h2 rfl)
  | false => exact h3 rfl
theorem wp_isiC {tb : List (Nat × Bool)} {Q : Sl × List Cell → Prop} (h : wp (f r m) fun s => wp (view s.2 s.1) fun d => ∃ c fs b, d = .ins c fs ∧ tb.lookup c = some b ∧ Q (.val (.bl b), s.2)) : wp (sIsiC tb f r m) Q := by
  obtain ⟨⟨s, m1⟩, e, d, e2, c, fs, b, rfl, h2, q⟩ := h
  refine wp_bind (wp_val e (wp_bind (wp_val e2 ?_)))
  simp only [h2]
  exact wp_ok q
theorem wp_isi2 {T U : String} {Q : Sl × List Cell → Prop} (h : wp (f r m) fun s => wp (view s.2 s.1) fun d => wp (dIsi2 T U d) fun b => Q (.val b, s.2)) : wp (sIsi2 T U f r m) Q := by
  obtain ⟨⟨s, m1⟩, e, d, e2, b, h2, q⟩ := h
  exact wp_bind (wp_val e (wp_bind (wp_val e2 (wp_bind (wp_val h2 (wp_ok q))))))
theorem wp_callT {tb : List (Nat × Fn)} {Q : Sl × List Cell → Prop} (h : wp (ff r m) fun o => ∃ c g, o.1 = .val (.cls c) ∧ tb.lookup c = some g ∧ wp (fa r o.2) fun a => wp (toDs a.1 a.2) fun ds => ds.1.length = 1 ∧ wp (gsD g ds.1 ds.2) Q) : wp (sCallT tb ff fa r m) Q := by
  obtain ⟨⟨o, m1⟩, e, c, g, h1, h2, ⟨ss, m3⟩, e3, ⟨ds, m4⟩, e4, hn, q⟩ := h
  refine wp_bind (wp_val e ?_)
  simp only at h1
  subst h1
  simp only [h2]
  refine wp_bind (wp_val e3 (wp_bind (wp_val e4 ?_)))
  simp only [hn, if_true]
  exact q
theorem wp_cmK {Q : Sl × List Cell → Prop} (h : wp (fo r m) fun o => o.1 = .val (.cls c) ∧ wp (fa r o.2) fun a => wp (fk r a.2) fun k => wp (toDs (a.1 ++ k.1) k.2) fun ds => (a.1.length + 1 = n ∧ k.1.length = nk ∧ (permL perm (.cls c :: ds.1 ++ md)).length = np) ∧ wp (gs (permL perm (.cls c :: ds.1 ++ md)) ds.2) Q) : wp (sCmK c n nk np perm md gs fo fa fk r m) Q := by
  obtain ⟨⟨o, m1⟩, e, h1, ⟨ss, m3⟩, e3, ⟨ks, m2⟩, e2, ⟨ds, m4⟩, e4, hn, q⟩ := h
  refine wp_bind (wp_val e ?_)
  simp only at h1
  subst h1
  simp only [if_true]
  refine wp_bind (wp_val e3 (wp_bind (wp_val e2 (wp_bind (wp_val e4 ?_)))))
  simp only [hn, and_self, if_true]
  exact q
theorem wp_newVK {g : InitF} {Q : Sl × List Cell → Prop} (h : wp (ff r m) fun o => ∃ c, o.1 = .val (.cls c) ∧ c ∈ cs ∧ wp (fa r o.2) fun a => wp (fk r a.2) fun k => wp (toDs a.1 k.2) fun ds => wp (toDs k.1 ds.2) fun kd => kn.length = kd.1.length ∧ wp (g c ds.1 (kn.zip kd.1)) fun fs => Q (.val (.ins c fs), kd.2)) : wp (sNewVK cs kn g ff fa fk r m) Q := by
  obtain ⟨⟨o, m1⟩, e, c, h1, hc, ⟨ss, m3⟩, e3, ⟨ks, m2⟩, e2, ⟨ds, m4⟩, e4, ⟨kd, m5⟩, e5, hn, fs, e6, q⟩ := h
  refine wp_bind (wp_val e ?_)
  simp only at h1
  subst h1
  simp only [hc, if_true]
  refine wp_bind (wp_val e3 (wp_bind (wp_val e2 (wp_bind (wp_val e4 (wp_bind (wp_val e5 ?_)))))))
  simp only at hn
  simp only [hn, if_true]
  exact wp_bind (wp_val e6 (wp_ok q))
end
end Nv
set_option Elab.async false
set_option linter.all false
set_option maxRecDepth 100000
set_option maxHeartbeats 4000000
namespace Nv
open PySem PySem.Spec PyProof.Rows L2
/-! ### enumerate of a tuple or a list -/
section
variable {cl : Cl} {X : Cx}
def iEnuA (f : SE) : SI := fun r m => do
  let (s, m1) ← f r m
  let (d, m2) ← toD s m1
  match d with
  | .tup ds => .ok (enumD ds, m2)
  | .lst ds => .ok (enumD ds, m2)
  | _ => .bad
theorem wp_enuA {f : SE} {r : List Sl} {m : List Cell} {Q : List D × List Cell → Prop} (h : wp (f r m) fun s => wp (toD s.1 s.2) fun d => ∃ xs, (d.1 = .tup xs ∨ d.1 = .lst xs) ∧ Q (enumD xs, d.2)) : wp (iEnuA f r m) Q := by
  obtain ⟨⟨s, m1⟩, e1, ⟨d, m2⟩, e2, xs, h, q⟩ := h
  refine wp_bind (wp_val e1 (wp_bind (wp_val e2 ?_)))
  simp only at h
  rcases h with rfl | rfl <;> exact wp_ok q
end
end Nv
set_option Elab.async false
set_option linter.all false
set_option maxRecDepth 100000
set_option maxHeartbeats 4000000
namespace Nv
open PySem PySem.Spec PyProof.Rows L2
theorem ShV.exc {T : Tab} {F H : Hp} {c : Nat} {fs : List (Str × D)} {v : V} (le : Le F H) (h : ShV T F H (.exc c fs) v) : ∃ a d gs, v = .ref a ∧ H a = some (exo a (T.cls c) d) ∧ ExD H d gs ∧ RepF T F fs gs := by
  have noK : ∀ {b : Addr} {o : HO}, F b = some o → (∀ ks, o ≠ .dK ks) → H b = some o := fun {b o} e n => by
    rcases le b o e with z | ⟨⟨ks, z⟩, _⟩
    · exact z
    · exact absurd z (n ks)
  rcases h with h | ⟨p, rfl, z⟩
  · simp only [Rep] at h
    obtain ⟨a, d, gs, rfl, s, x, r⟩ := h
    refine ⟨a, d, gs, rfl, noK s (fun ks z => ?_), ?_, r⟩
    · have z' : HO.ext _ = HO.dK ks := z
      cases z'
    · rcases x with x | ⟨dx, e1, e2⟩
      · exact .inl x
      · refine .inr ⟨dx, e1, noK e2 fun ks z => ?_⟩
        have z' : HO.ext _ = HO.dK ks := z
        cases z'
  · exact z.elim
theorem RepF.app {T : Tab} {F : Hp} : ∀ {fs ft : List (Str × D)} {gs gt : List (Str × V)}, RepF T F fs gs → RepF T F ft gt → RepF T F (fs ++ ft) (gs ++ gt)
  | [], _, _, _, h, k => by cases h; exact k
  | (f, d) :: fs, _, _, _, ⟨v, r, e, z, t⟩, k => by subst e; exact ⟨v, _, rfl, z, RepF.app t k⟩
theorem RepF.rev {T : Tab} {F : Hp} : ∀ {fs : List (Str × D)} {gs : List (Str × V)}, RepF T F fs gs → RepF T F fs.reverse gs.reverse
  | [], _, h => by cases h; rfl
  | (f, d) :: fs, _, ⟨v, r, e, z, t⟩ => by
    subst e
    rw [List.reverse_cons, List.reverse_cons]
    exact RepF.app (RepF.rev t) ⟨v, [], rfl, z, rfl⟩
/-! ### an exception as a value: made -/
/-- C(..), the fields told -/
def XRes (H : Hp) (C : Addr) (fs : List (Str × V)) (Q : VK) : Prop := match fs with
  | [] => ∀ a, H a = none → Q (.ref a) (upd H a (exo a C none))
  | _ => ∀ a dx, H a = none → H dx = none → dx ≠ a → Q (.ref a) (upd (upd H a (exo a C (some dx))) dx (exd dx fs.reverse))
structure MkX (P : Program) (w : World) (K : PySem.W.Frag) (mg : Str → Option Value) (base : Heap) (C : Addr) (qual : Str) (st : Stmt) (k : Nat) (ps : List Str) (fns : List Str) : Prop where
  ex : ∃ (B newId initId : String) (bmB : List Value) (fI : Addr) (fd : FuncData), XcB K C B newId initId bmB ∧ PySem.W.findIn K (.ref C) "__init__" = some (some (.ref fI)) ∧ PySem.W.typeIn K (.ref fI) = some (.type "function") ∧
    PySem.W.keepIn K (.ref C) = true ∧ (∀ f ∈ fns, PySem.W.findIn K (.ref C) f = some none) ∧ Fun K "__init__" qual st fI fd ∧ Binds K fd ps [] ∧ FnG P w K mg base k fI fd ps (SpXI K initId fns)
  len : ps.length = fns.length + 1
def sXmk (c : Nat) (fns : List Str) (fa : SA) : SE := fun r m => do
  let (ss, m1) ← fa r m
  let (ds, m2) ← toDs ss m1
  if ds.length = fns.length then .ok (.val (.exc c (fns.zip ds).reverse), m2) else .bad
section
variable {X : Cx} {cl : Cl} {C : Addr} {qual x : Str} {st : Stmt} {k c : Nat} {ps fns ks : List Str} {e : Expr} {es : List Expr} {p pos : Pos} {kws : List Keyword} {fa : SA}
theorem run_mkx {B newId initId : String} {bmB : List Value} {fI : Addr} {fd : FuncData} {pins : List (Addr × Obj)} {σ : L2.St} {H : Hp} {s : Shared} {Q : VK} {us us' : List Value} {kw : List (Str × Value)} {vs : List V}
    (T : XcB X.K C B newId initId bmB) (hi : PySem.W.findIn X.K (.ref C) "__init__" = some (some (.ref fI))) (ht : PySem.W.typeIn X.K (.ref fI) = some (.type "function")) (hf : ∀ f ∈ fns, PySem.W.findIn X.K (.ref C) f = some none)
    (F : FnG X.prog X.w X.K X.mg X.base k fI fd ps (SpXI X.K initId fns)) (hr : RoomG (k + 1) X.A) (hb : ∀ s' x, X.K.In s'.heap → BindsTo s' fd ⟨.ref x :: us, kw⟩ (ps.zip (.ref x :: us')))
    (I : Inv X pins σ H s) (r : Vals vs us') (hl : vs.length = fns.length) (hus : us.length ≤ sizeLine) (hq : XRes H C (fns.zip vs) Q) : wpAny (model X.prog X.w) X.A (PySem.call (.ref C) us kw) (EP X pins σ Q) X.xe s := by
  obtain ⟨nm, N, qn, bs, bm, hdct, sn, sub, ab, col, dd, k0, k1, k2, k3, k5, hC, hT⟩ := PySem.W.excInit_of I.kIn T.hi
  obtain ⟨Bn, initN, bmN, fb, hB, hA, hN⟩ := T.fb
  rw [← hT] at hB hA hN
  obtain ⟨hp, g, dr, tk, os⟩ := s
  have hsz : hp.objs.size ≤ hp.objs.size + 1 := Nat.le_succ _
  have hn : H (hp.objs.size + 1) = none := I.hok.fresh hsz
  have hget : ((hp.push (PySem.W.kdv_tup us)).push (PySem.HandSPX.excO C hp.objs.size)).get? (hp.objs.size + 1) = some (PySem.HandSPX.excO C hp.objs.size) := by heap_get
  have I2 : Inv X pins σ (upd H (hp.objs.size + 1) (exo (hp.objs.size + 1) C none)) ⟨(hp.push (PySem.W.kdv_tup us)).push (PySem.HandSPX.excO C hp.objs.size), g, dr, tk, os⟩ :=
    I.laid (t' := tk) (h' := (hp.push (PySem.W.kdv_tup us)).push (PySem.HandSPX.excO C hp.objs.size)) (fun b o z => Heap.get?_push_of_some _ (Heap.get?_push_of_some _ z)) hsz (exo_ok hget)
  refine wpAny_call (xcall fb hB hA hN hC (PySem.W.looks_findIn I.kIn hi) (fun self => PySem.W.bind_fn I.kIn self ht) hus
    (codeAny_mono (F.run _ X.stack _ _ ⟨.ref (hp.objs.size + 1) :: us, kw⟩ (.ref (hp.objs.size + 1) :: us') (V.ref (hp.objs.size + 1) :: vs) (fun v H2 => v = .non ∧ Q (.ref (hp.objs.size + 1)) H2) E0 (hr.make C us kw) (I2.env0.make C us kw) (hb _ _ I2.kIn) (.cons rfl r)
      ⟨hp.objs.size + 1, C, vs, B, newId, bmB, rfl, hl, T, hf, upd_same, ?_⟩) fun r' s' hq' => ?_))
  · generalize fns.zip vs = zs at hq
    cases zs with
    | nil =>
      show V.non = V.non ∧ Q _ _
      exact ⟨rfl, by rw [upd_upd]; exact (show ∀ a, H a = none → Q (.ref a) (upd H a (exo a C none)) from hq) _ hn⟩
    | cons z zs =>
      show ∀ dx, _ → _ → (V.non = V.non ∧ Q _ _)
      intro dx n ne
      rw [upd_upd]
      exact ⟨rfl, (show ∀ a dx, H a = none → H dx = none → dx ≠ a → Q (.ref a) (upd (upd H a (exo a C (some dx))) dx (exd dx (z :: zs).reverse)) from hq) _ dx hn (by rw [upd_ne ne] at n; exact n) ne⟩
  · cases r' with
    | error e => exact hq'.elim
    | ok fl => cases fl with
      | ret u =>
        obtain ⟨v, H', I3, rv, ev, q3⟩ := I2.after hq'
        subst ev
        exact ⟨rv, ⟨V.ref (hp.objs.size + 1), H', I3, rfl, q3⟩⟩
      | _ => exact hq'.elim
/-- what the reading of the arguments gives -/
theorem mkx_read {tt : TA}
    (h2 : ∀ W σ H r m, Rl ⟨X.K, cl⟩ W σ H r m → ∀ ss m', fa r m = .ok (ss, m') → ∀ Q : List V → Hp → Prop, (∀ vs W' H', Stp W H W' H' → Rl ⟨X.K, cl⟩ W' σ H' r m' → SlRs ⟨X.K, cl⟩ W' ss vs → Q vs H') → tt σ H Q) :
    ∀ W σ H r m, Rl ⟨X.K, cl⟩ W σ H r m → ∀ s m', sXmk c fns fa r m = .ok (s, m') → ∀ Q : VK, (∀ v W' H', Stp W H W' H' → Rl ⟨X.K, cl⟩ W' σ H' r m' → SlR ⟨X.K, cl⟩ W' s v → Q v H') →
      tt σ H fun vs H1 => vs.length = fns.length ∧ XRes H1 (cl c) (fns.zip vs) Q := by
  intro W σ H r m R s m' e Q kk
  obtain ⟨⟨ss, m1⟩, e1, e⟩ := bind_ok e
  obtain ⟨⟨ds, m2⟩, e2, e⟩ := bind_ok e
  obtain ⟨hl, e⟩ := ite_ok e
  cases e
  refine h2 W σ H r m R ss m1 e1 _ fun vs W1 H1 w1 R1 z1 => ?_
  obtain ⟨W2, w2, R2, z2⟩ := R1.toDs z1 e2
  have lv : vs.length = fns.length := by rw [z2.length]; exact hl
  have rf : RepF ⟨X.K, cl⟩ W2.F (fns.zip ds) (fns.zip vs) := RepF.zip z2 hl.symm
  refine ⟨lv, ?_⟩
  have rv := RepF.rev rf
  generalize fns.zip vs = zs at rv
  cases zs with
  | nil =>
    show ∀ a, _ → Q _ _
    intro a hn
    obtain ⟨R3, w3⟩ := R2.newFz (o := exo a (cl c) none) hn
    refine kk _ _ _ ((w1.trans w2).trans w3) R3 ?_
    exact ⟨a, none, [], rfl, upd_same, .inl ⟨rfl, rfl⟩, RepF.mono w3.w.f _ _ rv⟩
  | cons z zs =>
    show ∀ a dx, _ → _ → _ → Q _ _
    intro a dx hn hd ne
    obtain ⟨R3, w3⟩ := R2.newFz (o := exo a (cl c) (some dx)) hn
    obtain ⟨R4, w4⟩ := R3.newFz (o := exd dx (z :: zs).reverse) (p := dx) (by rw [upd_ne ne]; exact hd)
    refine kk _ _ _ (((w1.trans w2).trans w3).trans w4) R4 ?_
    refine ⟨a, some dx, _, rfl, ?_, .inr ⟨dx, rfl, upd_same⟩, RepF.mono (w3.w.f.trans w4.w.f) _ _ rv⟩
    show upd _ _ _ _ = _
    rw [upd_ne (Ne.symm ne)]
    exact upd_same
theorem de_xmk (M : MkX X.prog X.w X.K X.mg X.base (cl c) qual st k ps fns) (hr : RoomG (k + 1) X.A) (hg : Gl X x) (hm : X.mg x = some (.ref (cl c))) (ha : DA cl X (e :: es) fa) (hsz : fns.length ≤ sizeLine := by decide)
    (hdb : (x == ("__debug__" : Str)) = false := by decide) (he : starEach (e :: es) X.env = (false, eval e X.env) :: starEach es X.env := by rfl) (hpl : (backTo pos (starEach es X.env)).any (·.1) = false := by rfl) :
    DE cl X (.Call (.Name x p) (e :: es) [] pos) (sXmk c fns fa) := by
  obtain ⟨t, h1, h2⟩ := ha.ex
  obtain ⟨B, newId, initId, bmB, fI, fd, T, hi, ht, kp, hf, Fu, bn, F⟩ := M.ex
  refine ⟨_, ⟨fun pins s σ H Q I h => ?_⟩, mkx_read h2⟩
  refine wpAny_Call_Name_kw (ld_glob I hg hm ?_ hdb)
  refine PySem.W.callWith_K (h₀ := X.base) I.ok.mod.kin kp (thn (h1.run pos pins s σ H _ I h) fun us s1 ⟨vs, H1, I1, r, hl, q⟩ => ⟨I1.kIn, ?_⟩) he hpl
  refine run_mkx (us := us) (us' := us) T hi ht hf F hr (fun s' y hk => ?_) I1 r hl (by rw [← r.length, hl]; exact hsz) q
  have z := bn s' (.ref y :: us) hk (by rw [List.append_nil, List.length_cons, ← r.length, hl]; exact M.len.symm)
  rwa [List.append_nil] at z
theorem de_xmk0 (M : MkX X.prog X.w X.K X.mg X.base (cl c) qual st k ps []) (hr : RoomG (k + 1) X.A) (hg : Gl X x) (hm : X.mg x = some (.ref (cl c))) (hdb : (x == ("__debug__" : Str)) = false := by decide) :
    DE cl X (.Call (.Name x p) [] [] pos) (sXmk c [] aNil) := by
  have h2 : ∀ W σ H r m, Rl ⟨X.K, cl⟩ W σ H r m → ∀ ss m', aNil r m = .ok (ss, m') → ∀ Q : List V → Hp → Prop, (∀ vs W' H', Stp W H W' H' → Rl ⟨X.K, cl⟩ W' σ H' r m' → SlRs ⟨X.K, cl⟩ W' ss vs → Q vs H') → tNil σ H Q :=
    fun W σ H r m R ss m' e Q k => by cases e; exact k [] W H (Stp.refl _ _) R rfl
  obtain ⟨B, newId, initId, bmB, fI, fd, T, hi, ht, kp, hf, Fu, bn, F⟩ := M.ex
  refine ⟨_, ⟨fun pins s σ H Q I h => ?_⟩, mkx_read h2⟩
  refine wpAny_Call_Name_kw (ld_glob I hg hm (PySem.W.callWith_K0 I.kIn kp ?_) hdb)
  obtain ⟨hl, q⟩ := h
  refine run_mkx (us := []) (us' := []) T hi ht hf F hr (fun s' y hk => ?_) I .nil hl (by decide) q
  have z := bn s' [.ref y] hk (by simpa using M.len.symm)
  simpa using z
theorem de_xmkK (perm : List Nat) (M : MkX X.prog X.w X.K X.mg X.base (cl c) qual st k ps fns) (hr : RoomG (k + 1) X.A) (hg : Gl X x) (hm : X.mg x = some (.ref (cl c)))
    (hb : ∀ (kV doc pm : Value) (an : Option Addr) (cdv ct self : Value) (ws : List Value), ws.length = ks.length → bindArgs (PySem.W.fnOf "__init__" qual (defArgs st) (defBody st) (defScope st) .none kV doc pm an cdv ct) ⟨[self], ks.zip ws⟩ = pure (ps.zip (self :: permL perm ws)))
    (ha : DK cl X kws fa) (hsz : fns.length ≤ sizeLine := by decide) (hdb : (x == ("__debug__" : Str)) = false := by decide)
    (hall : (backToKw pos (keywordEach kws X.env)).all (·.1.isSome) = true := by rfl) (hks : (backToKw pos (keywordEach kws X.env)).filterMap (·.1) = ks := by rfl)
    (hpl : ((backTo pos (starEach [] X.env)).any (·.1) || (backToKw pos (keywordEach kws X.env)).any (·.1.isNone)) = false := by rfl) :
    DE cl X (.Call (.Name x p) [] kws pos) (sXmk c fns (aPerm ks.length perm fa)) := by
  obtain ⟨t, h1, h2⟩ := ha.ex
  obtain ⟨B, newId, initId, bmB, fI, fd, T, hi, ht, kp, hf, Fu, bn, F⟩ := M.ex
  refine ⟨_, ⟨fun pins s σ H Q I h => ?_⟩, mkx_read (da_perm perm ks.length h2)⟩
  refine wpAny_Call_Name_kw (ld_glob I hg hm ?_ hdb)
  refine PySem.W.callWith_KW0 (h₀ := X.base) (first := []) I.ok.mod.kin kp hall (thn (h1.run pos pins s σ H _ I h) fun us s1 ⟨vs, H1, I1, r, hl, hl2, q⟩ => ⟨I1.kIn, ?_⟩) hpl
  rw [hks]
  refine run_mkx (us := []) (us' := permL perm us) T hi ht hf F hr (fun s' y hk => ?_) I1 (vals_perm r perm) hl2 (Nat.zero_le _) q
  obtain ⟨oc, od, kV, doc, pm, an, cdv, ct, osl, rfl, lk, hcd⟩ := Fu.ex
  exact .of_eq (hb kV doc pm an cdv ct (.ref y) us (by rw [← r.length]; exact hl))
end
end Nv
set_option Elab.async false
set_option linter.all false
set_option maxRecDepth 100000
set_option maxHeartbeats 4000000
namespace Nv
open PySem PySem.Spec PyProof.Rows L2
/-! ### an exception as a value: its fields, its classes -/
theorem exo_inst {P : Program} {w : World} {H : Hp} {h : Heap} {a C : Addr} {d : Option Addr} {gs : List (Str × V)} (hok : HOk P w H h) (e : H a = some (exo a C d)) (x : ExD H d gs) :
    ∃ (ox : Obj) (od : Option Obj), PySem.W.InstAt h a ox C od ∧ (∀ dx, d = some dx → ∃ mA : Str → Option Value, (∀ f, RelO (gs.lookup f) (mA f)) ∧ ∃ o, od = some o ∧ ∀ f, PySem.W.lookIn f o = some (mA f)) := by
  obtain ⟨t1, ho⟩ := exo_at hok e
  rcases x with ⟨rfl, rfl⟩ | ⟨dx, rfl, ed⟩
  · exact ⟨_, none, ⟨ho, rfl, rfl, trivial⟩, fun dx z => nomatch z⟩
  · obtain ⟨mA, hns, rel⟩ := exd_at hok ed
    obtain ⟨od, hod, hl⟩ := lookIn_ns hns
    exact ⟨_, some od, ⟨ho, rfl, rfl, hod⟩, fun dy z => by cases z; exact ⟨mA, rel, od, rfl, hl⟩⟩
def xGet (o : Option D) (m : List Cell) : Out (Sl × List Cell) := match o with
  | some d => .ok (.val d, m)
  | none => .bad
def sXat (cs : List Nat) (f : Str) (fo : SE) : SE := fun r m => do
  let (o, m1) ← fo r m
  match o with
  | .val (.exc c fs) => if c ∈ cs then xGet (fs.lookup f) m1 else .bad
  | _ => .bad
section
variable {cl : Cl} {X : Cx}
theorem de_xat {cs : List Nat} {e : Expr} {f : Str} {fo : SE} {pos : Pos} (T : ∀ c ∈ cs, ExcC X.K (cl c) ∧ PySem.W.findIn X.K (.ref (cl c)) f = some none) (he : DE cl X e fo) (hb : attributeBase e f X.env (eval e X.env) = eval e X.env := by rfl) :
    DE cl X (.Attribute e f pos) (sXat cs f fo) := by
  obtain ⟨t, h1, h2⟩ := he.ex
  refine ⟨fun σ H Q => t σ H fun x H1 => ∃ a c dx gs v, x = .ref a ∧ c ∈ cs ∧ H1 a = some (exo a (cl c) (some dx)) ∧ H1 dx = some (exd dx gs) ∧ gs.lookup f = some v ∧ Q v H1, ⟨fun pins s σ H Q I h => ?_⟩, fun W σ H r m R s m' e Q kk => ?_⟩
  · refine attr_of hb (thn (h1.run pins s σ H _ I h) fun u s1 ⟨x, H1, I1, rx, a, c, dx, gs, v, ex, hc, ea, ed, l, q⟩ => ?_)
    subst ex
    obtain rfl : u = Value.ref a := rx
    obtain ⟨C, hno⟩ := T c hc
    obtain ⟨ox, od, J, z⟩ := exo_inst I1.hok ea (.inr ⟨dx, rfl, ed⟩)
    obtain ⟨mA, rel, o, rfl, hl⟩ := z dx rfl
    obtain ⟨u, hu, ru⟩ := RelO.some_of (v := v) (o := mA f) (by rw [← l]; exact rel f)
    exact HandSPX.exc_get I1.kIn J C.hg C.hk C.hs (PySem.W.findObj_own C.hd hno rfl (by rw [hl, hu])) (handed_of ru) ⟨v, H1, I1.tok _, ru, q⟩
  · obtain ⟨⟨o, m1⟩, e1, e⟩ := bind_ok e
    cases o with
    | un => cases e
    | ref j => cases e
    | val d =>
      cases d with
      | exc c fs =>
        simp only at e
        obtain ⟨hc, e⟩ := ite_bad e
        cases z : fs.lookup f with
        | none => rw [z] at e; cases e
        | some d =>
          rw [z] at e
          cases e
          refine h2 W σ H r m R _ _ e1 _ fun v W1 H1 w1 R1 z1 => ?_
          obtain ⟨a, dd, gs, rfl, ha, x, rf⟩ := ShV.exc R1.le (.inl z1)
          obtain ⟨v, hv, rv⟩ := RepF.get rf z
          rcases x with ⟨_, rfl⟩ | ⟨dx, rfl, ed⟩
          · cases hv
          · exact ⟨a, c, dx, gs, v, rfl, hc, ha, ed, hv, kk v W1 H1 w1 R1 rv⟩
      | _ => cases e
def rIsX (K : PySem.W.Frag) : List V → Hp → VK → Prop := fun xs H Q => ∃ (a C : Addr) (d : Option Addr) (gs : List (Str × V)) (c : V) (cv : Value) (b : Bool), xs = [.ref a, c] ∧ H a = some (exo a C d) ∧ ExD H d gs ∧ ExcC K C ∧ (∀ u, RelV c u → u = cv) ∧ PySem.W.kitOne K (.ref C) cv = some b ∧ Q (.bl b) H
theorem call_isX : CallR X (.builtin "isinstance") (rIsX X.K) := by
  intro pins s σ H xs us Q I r h
  obtain ⟨a, C, d, gs, c, cv, b, rfl, ha, x, T, hcv, e, q⟩ := h
  cases r with
  | cons rx rr =>
    cases rr with
    | cons rt rr =>
      cases rr
      cases rx
      have ec := hcv _ rt
      subst ec
      obtain ⟨ox, od, J, _⟩ := exo_inst I.hok ha x
      have hcl : (PySem.W.clsIn X.K C).isSome = true := by
        obtain ⟨cd, hc, _⟩ := PySem.W.any_some T.hd
        rw [hc]; rfl
      exact PySem.W.kia_one (PySem.W.kitx_exc hcl T.hg T.hk T.hs T.ha T.hn T.ht T.hm) I.kIn J e (fun z => nomatch z) fun tk => ⟨.bl b, H, I.kept (t' := tk) fun _ _ z => z, rfl, q⟩
def sXis (tb : List (Nat × Bool)) (f : SE) : SE := fun r m => do
  let (s, m1) ← f r m
  match s with
  | .val (.exc c _) => match tb.lookup c with
    | some b => .ok (.val (.bl b), m1)
    | none => .bad
  | _ => .bad
theorem xis_read {tt : TE} {f : SE} {tb : List (Nat × Bool)} {v0 : V} {cv : Value} (hcv : ∀ u, RelV v0 u → u = cv) (ht : ∀ q ∈ tb, ExcC X.K (cl q.1) ∧ PySem.W.kitOne X.K (.ref (cl q.1)) cv = some q.2)
    (h2 : ∀ W σ H r m, Rl ⟨X.K, cl⟩ W σ H r m → ∀ s m', f r m = .ok (s, m') → ∀ Q : VK, (∀ v W' H', Stp W H W' H' → Rl ⟨X.K, cl⟩ W' σ H' r m' → SlR ⟨X.K, cl⟩ W' s v → Q v H') → tt σ H Q) :
    ∀ W σ H r m, Rl ⟨X.K, cl⟩ W σ H r m → ∀ s m', sXis tb f r m = .ok (s, m') → ∀ Q : VK, (∀ v W' H', Stp W H W' H' → Rl ⟨X.K, cl⟩ W' σ H' r m' → SlR ⟨X.K, cl⟩ W' s v → Q v H') →
      tt σ H fun x H1 => rIsX X.K [x, v0] H1 Q := by
  intro W σ H r m R s m' e Q kk
  obtain ⟨⟨o, m1⟩, e1, e⟩ := bind_ok e
  cases o with
  | un => cases e
  | ref j => cases e
  | val d =>
    cases d with
    | exc c fs =>
      simp only at e
      cases z : tb.lookup c with
      | none => rw [z] at e; cases e
      | some b =>
        rw [z] at e
        cases e
        obtain ⟨T, hk⟩ := ht _ (lookup_mem z)
        refine h2 W σ H r m R _ _ e1 _ fun v W1 H1 w1 R1 z1 => ?_
        obtain ⟨a, dd, gs, rfl, ha, x, rf⟩ := ShV.exc R1.le (.inl z1)
        exact ⟨a, cl c, dd, gs, v0, cv, b, rfl, ha, x, T, hcv, hk, kk _ W1 H1 w1 R1 rfl⟩
    | _ => cases e
theorem de_xis {e : Expr} {x y : Str} {p p2 pos : Pos} {f : SE} {C : Addr} {tb : List (Nat × Bool)} (he : DE cl X e f) (hgI : Gl X x) (hmI : X.mg x = none) (hvI : bootBuiltins x = some (.builtin "isinstance")) (hgT : Gl X y) (hmT : X.mg y = some (.ref C))
    (ht : ∀ q ∈ tb, ExcC X.K (cl q.1) ∧ PySem.W.kitOne X.K (.ref (cl q.1)) (.ref C) = some q.2)
    (hn : x ≠ "__name__" := by decide) (hd : (x == ("__debug__" : Str)) = false := by decide) (hd2 : (y == ("__debug__" : Str)) = false := by decide)
    (hs1 : starEach [e, .Name y p2] X.env = (false, eval e X.env) :: starEach [.Name y p2] X.env := by rfl) (hs2 : starEach [.Name y p2] X.env = (false, eval (.Name y p2) X.env) :: starEach [] X.env := by rfl) (hpl : (backTo pos (starEach [.Name y p2] X.env)).any (·.1) = false := by rfl) :
    DE cl X (.Call (.Name x p) [e, .Name y p2] [] pos) (sXis tb f) := by
  obtain ⟨t, h1, h2⟩ := he.ex
  exact ⟨_, pe_callB call_isX hgI hmI hvI (pa_cons h1 (pa_cons (pe_glob (v := .ref C) hgT hmT rfl hd2) pa_nil hs2) hs1) hn hd hs1 hpl, xis_read (v0 := .ref C) (fun _ z => z) ht h2⟩
theorem de_xisB {e : Expr} {x y : Str} {p p2 pos : Pos} {f : SE} {Ty : String} {tb : List (Nat × Bool)} (he : DE cl X e f) (hgI : Gl X x) (hmI : X.mg x = none) (hvI : bootBuiltins x = some (.builtin "isinstance")) (hgT : Gl X y) (hmT : X.mg y = none) (hvT : bootBuiltins y = some (.type Ty))
    (ht : ∀ q ∈ tb, ExcC X.K (cl q.1) ∧ PySem.W.kitOne X.K (.ref (cl q.1)) (.type Ty) = some q.2)
    (hn : x ≠ "__name__" := by decide) (hd : (x == ("__debug__" : Str)) = false := by decide) (hn2 : y ≠ "__name__" := by decide) (hd2 : (y == ("__debug__" : Str)) = false := by decide)
    (hs1 : starEach [e, .Name y p2] X.env = (false, eval e X.env) :: starEach [.Name y p2] X.env := by rfl) (hs2 : starEach [.Name y p2] X.env = (false, eval (.Name y p2) X.env) :: starEach [] X.env := by rfl) (hpl : (backTo pos (starEach [.Name y p2] X.env)).any (·.1) = false := by rfl) :
    DE cl X (.Call (.Name x p) [e, .Name y p2] [] pos) (sXis tb f) := by
  obtain ⟨t, h1, h2⟩ := he.ex
  exact ⟨_, pe_callB call_isX hgI hmI hvI (pa_cons h1 (pa_cons (pe_bltn (v := .ty Ty) hgT hmT hvT rfl hn2 hd2) pa_nil hs2) hs1) hn hd hs1 hpl, xis_read (v0 := .ty Ty) (fun _ z => z) ht h2⟩
end
end Nv
set_option Elab.async false
set_option linter.all false
set_option maxRecDepth 100000
set_option maxHeartbeats 4000000
/-! ### KeyError, of which the library has no facts -/
namespace Nv.KeyE
open PySem PySem.F Nv
abbrev keMro : List Value := [.type "KeyError", .type "LookupError", .type "Exception", .type "BaseException", .type "object"]
theorem init_ : XinF "KeyError" "KeyError.__init__" :=
  ⟨.of (owner := "KeyError") (n := "__init__") (by rw [typeLookup_type, builtinLookup_eq_fast]; kernel_rfl) (by decide +kernel) (by decide +kernel) (by decide +kernel) (by first | exact .inl (by decide +kernel) | exact .inr (by decide +kernel)) (by rw [isSubtype_type]; kernel_rfl),
    entryFor_alias (id' := "BaseException.__init__") (by rw [fastTable_eq_tree]; kernel_rfl) (by first | rfl | decide +kernel) (by decide +kernel) (by rw [fastTable_eq_tree]; kernel_rfl), by kernel_rfl, by kernel_rfl, by kernel_rfl, by decide +kernel⟩
theorem store_ : StoreFacts "KeyError" keMro "object.__setattr__" "object" :=
  { mro := by kernel_rfl, entry := entry_object_sa, kind := by decide +kernel, split := by decide +kernel, hasOwner := by decide +kernel, args := fun a b c => by unfold argsOk; kernel_rfl, passes := fun self => by kernel_rfl
    slot := .of (owner := "object") (n := "__setattr__") (by rw [typeLookup_type, builtinLookup_eq_fast]; kernel_rfl) (by decide +kernel) (by decide +kernel) (by decide +kernel) (by first | exact .inl (by decide +kernel) | exact .inr (by decide +kernel)) (by rw [isSubtype_type]; kernel_rfl) }
end Nv.KeyE
namespace Nv
open PySem PySem.Spec PyProof.Rows L2
theorem boot_KeyError : bootBuiltins "KeyError" = some (.type "KeyError") := by first | exact Boot.KeyError | kernel_rfl
theorem boot_LookupError : bootBuiltins "LookupError" = some (.type "LookupError") := by first | exact Boot.LookupError | kernel_rfl
theorem boot_OverflowError : bootBuiltins "OverflowError" = some (.type "OverflowError") := by first | exact Boot.OverflowError | kernel_rfl
section
variable {K : PySem.W.Frag} {mg : Str → Option Value}
theorem xbs_Key (h : mg "KeyError" = none) : XBs K mg "KeyError" "KeyError.__init__" := ⟨by decide, by decide +kernel, .inr ⟨h, by decide, "KeyError", boot_KeyError, by kernel_rfl, by decide +kernel, by first | rfl | kernel_rfl⟩⟩
theorem xbs_Lookup (h : mg "LookupError" = none) : XBs K mg "LookupError" "LookupError.__init__" := ⟨by decide, by decide +kernel, .inr ⟨h, by decide, "LookupError", boot_LookupError, by kernel_rfl, by decide +kernel, by first | rfl | kernel_rfl⟩⟩
theorem xbs_Overflow (h : mg "OverflowError" = none) : XBs K mg "OverflowError" "OverflowError.__init__" := ⟨by decide, by decide +kernel, .inr ⟨h, by decide, "OverflowError", boot_OverflowError, by kernel_rfl, by decide +kernel, by first | rfl | kernel_rfl⟩⟩
theorem xbs_own {x : Str} {C : Addr} (h : mg x = some (.ref C)) (cr : ClX.CRead K C (.type "type")) (e : PySem.W.findCls K (.ref C) (.type "type") "__init__" = some (.val (.builtin "ValueError.__init__"))) (hd : (x == ("__debug__" : Str)) = false) : XBs K mg x "ValueError.__init__" :=
  ⟨hd, by decide +kernel, .inl ⟨C, h, cr, e⟩⟩
variable {C : Addr}
theorem xcb_Value (hi : PySem.W.excInitIn K C [.type "ValueError", .type "Exception", .type "BaseException", .type "object"] "ValueError.__new__" = true) (ho : PySem.W.excOver K C [.type "ValueError", .type "Exception", .type "BaseException", .type "object"] = true) (hd : PySem.W.hasDictIn K C = true)
    (sa : PySem.W.findIn K (.ref C) "__setattr__" = some (some (.builtin "object.__setattr__"))) : ∃ B newId bmB, XcB K C B newId "ValueError.__init__" bmB := ⟨_, _, _, ⟨_, _, _, PySem.F.excBase_ValueError, by decide +kernel, by decide +kernel, by decide +kernel⟩, .of PySem.F.excBase_ValueError.toExcCallFacts, by decide +kernel, PySem.F.store_ValueError, hi, ho, hd, sa⟩
theorem xcb_Key (hi : PySem.W.excInitIn K C KeyE.keMro "LookupError.__new__" = true) (ho : PySem.W.excOver K C KeyE.keMro = true) (hd : PySem.W.hasDictIn K C = true)
    (sa : PySem.W.findIn K (.ref C) "__setattr__" = some (some (.builtin "object.__setattr__"))) : ∃ B newId bmB, XcB K C B newId "KeyError.__init__" bmB := ⟨_, _, _, ⟨_, _, _, PySem.F.excBase_LookupError, by decide +kernel, by decide +kernel, by decide +kernel⟩, KeyE.init_, by decide +kernel, KeyE.store_, hi, ho, hd, sa⟩
theorem xcb_Lookup (hi : PySem.W.excInitIn K C [.type "LookupError", .type "Exception", .type "BaseException", .type "object"] "LookupError.__new__" = true) (ho : PySem.W.excOver K C [.type "LookupError", .type "Exception", .type "BaseException", .type "object"] = true) (hd : PySem.W.hasDictIn K C = true)
    (sa : PySem.W.findIn K (.ref C) "__setattr__" = some (some (.builtin "object.__setattr__"))) : ∃ B newId bmB, XcB K C B newId "LookupError.__init__" bmB := ⟨_, _, _, ⟨_, _, _, PySem.F.excBase_LookupError, by decide +kernel, by decide +kernel, by decide +kernel⟩, .of PySem.F.excBase_LookupError.toExcCallFacts, by decide +kernel, PySem.F.store_LookupError, hi, ho, hd, sa⟩
theorem xcb_Overflow (hi : PySem.W.excInitIn K C [.type "OverflowError", .type "ArithmeticError", .type "Exception", .type "BaseException", .type "object"] "OverflowError.__new__" = true) (ho : PySem.W.excOver K C [.type "OverflowError", .type "ArithmeticError", .type "Exception", .type "BaseException", .type "object"] = true) (hd : PySem.W.hasDictIn K C = true)
    (sa : PySem.W.findIn K (.ref C) "__setattr__" = some (some (.builtin "object.__setattr__"))) : ∃ B newId bmB, XcB K C B newId "OverflowError.__init__" bmB := ⟨_, _, _, ⟨_, _, _, PySem.F.excBase_OverflowError, by decide +kernel, by decide +kernel, by decide +kernel⟩, .of PySem.F.excBase_OverflowError.toExcCallFacts, by decide +kernel, PySem.F.store_OverflowError, hi, ho, hd, sa⟩
end
end Nv
set_option Elab.async false
set_option linter.all false
set_option maxRecDepth 100000
set_option maxHeartbeats 4000000
namespace Nv
open PySem PySem.Spec PyProof.Rows L2
section
variable {cl : Cl} {X : Cx}
/-! ### t.upper(), t.index(u), l.index(b), l.count(b), list(range(n)) -/
def sUpper (fo : SE) : SE := fun r m => do
  let (o, m1) ← fo r m
  match o with
  | .val (.str a) => if a.length ≤ 5592405 then .ok (.val (.str (Txt.upper a)), m1) else .bad
  | _ => .bad
theorem de_upper {o : Expr} {fo : SE} {apos pos : Pos} (ho : DE cl X o fo) (hbase : attributeBase o "upper" X.env (eval o X.env) = eval o X.env := by rfl) (hline : (apos.endLine == pos.line) = true := by rfl) :
    DE cl X (.Call (.Attribute o "upper" apos) [] [] pos) (sUpper fo) := by
  obtain ⟨t, h1, h2⟩ := ho.ex
  refine ⟨_, pe_upper h1 hbase hline, fun W σ H r m R s m' e Q k => ?_⟩
  obtain ⟨⟨o', m1⟩, e1, e⟩ := bind_ok e
  cases o' with
  | un => cases e
  | ref j => cases e
  | val d =>
    cases d with
    | str a =>
      simp only at e
      obtain ⟨hl, e⟩ := ite_ok e
      cases e
      refine h2 W σ H r m R _ _ e1 _ fun v W1 H1 w1 R1 z1 => ?_
      obtain rfl : v = .str a := z1
      exact ⟨⟨a, rfl⟩, a, rfl, rfl, hl, k _ W1 H1 w1 R1 rfl⟩
    | _ => cases e
def dIndexS (d : D) (ds : List D) : Out D := match d, ds with
  | .str a, [.str b] => match Builtin.Str.occurrences a b 0 a.length 1 with
    | i :: _ => .ok (.int (i : Nat))
    | [] => .bad
  | _, _ => .bad
theorem md_indexS : MtD ⟨X.K, cl⟩ "str" (fun x xs H Q => ∃ a b i rest, x = .str a ∧ xs = [.str b] ∧ Builtin.Str.occurrences a b 0 a.length 1 = i :: rest ∧ Q (.int (i : Nat)) H) dIndexS := by
  intro F H x xs dx ds d le hx hs e Q k1 k2
  unfold dIndexS at e
  split at e
  · split at e
    · rename_i i rest ho
      cases e
      obtain ⟨v, rfl, z⟩ := hs.one
      cases z.str
      cases hx.str
      exact ⟨_, _, _, _, rfl, rfl, ho, k1 _ rfl⟩
    · cases e
  · cases e
def rCntF (K : PySem.W.Frag) : V → List V → Hp → VK → Prop := fun x xs H Q => ∃ (p : Addr) (ys : List V) (y : V), x = .ref p ∧ xs = [y] ∧ SqL K H p ys ∧ flatV y = true ∧ ys.all flatV = true ∧ Q (.int (ys.countP fun z => eqV z y : Nat)) H
theorem count_eqU {y : V} : ∀ {ys : List V} {us : List Value}, Vals ys us → ys.all flatV = true → us.countP (eqU y) = ys.countP fun z => eqV z y
  | _, _, .nil, _ => rfl
  | z :: ys, u :: us, .cons r t, f => by
    rw [List.all_cons, Bool.and_eq_true] at f
    rw [List.countP_cons, List.countP_cons, count_eqU t f.2, eqU_of r f.1]
theorem mt_cntF : MtR X "list.count" (rCntF X.K) := by
  intro pins s σ H x xs v us Q I rx rxs h
  obtain ⟨p, ys, y, rfl, rfl, hs, fy, fys, q⟩ := h
  cases rx
  cases rxs with
  | cons ry rt =>
    rename_i uy ut
    cases rt
    obtain ⟨its, rv, ⟨⟨cls, dd, data, sl⟩, n, ho, hc, hdn, hd⟩, hlen⟩ := I.list hs
    simp only at hc hd
    subst hc hd
    refine call_meets PySem.F.slot_list_count ⟨_, ho, rfl⟩ PySem.F.entry_list_count (PySem.F.args_list_count_2 _ _) (SeqAt.list_countAt p its.toArray n dd sl uy (eqU y)) ⟨ho, fun u' hu' => mem_eqAt ry fy rv fys u' (by simpa using hu'), ?_⟩
    refine ⟨.int (ys.countP fun z => eqV z y : Nat), H, I.tok _, ⟨s.toks, ?_⟩, q⟩
    show Value.int ((its.toArray.toList.countP (eqU y) : Nat) : Int) s.toks = _
    rw [show its.toArray.toList = its from rfl, count_eqU rv fys]
def blL : List D → Option (List Bool)
  | [] => some []
  | .bl b :: ds => (blL ds).map (b :: ·)
  | _ :: _ => none
theorem blL_ok {T : Tab} {F : Hp} : ∀ {ds : List D} {bs : List Bool} {vs : List V}, blL ds = some bs → Reps T F ds vs → vs = bs.map V.bl
  | [], _, _, e, h => by cases e; cases h; rfl
  | d :: ds, bs, _, e, ⟨v, r, ev, z, t⟩ => by
    subst ev
    cases d with
    | bl b =>
      simp only [blL] at e
      cases q : blL ds with
      | none => rw [q] at e; cases e
      | some cs =>
        rw [q] at e
        cases e
        obtain rfl : v = .bl b := z
        rw [blL_ok q t]; rfl
    | _ => cases e
def dCntB (d : D) (ds : List D) : Out D := match d, ds with
  | .lst xs, [.bl b] => match blL xs with
    | some bs => .ok (.int (bs.countP (· == b) : Nat))
    | none => .bad
  | _, _ => .bad
def dIxB (d : D) (ds : List D) : Out D := match d, ds with
  | .lst xs, [.bl b] => match blL xs with
    | some bs => if bs.idxOf b < bs.length then .ok (.int (bs.idxOf b : Nat)) else .bad
    | none => .bad
  | _, _ => .bad
theorem rd_sq {K : PySem.W.Frag} {H : Hp} {a : Addr} {xs : List V} (h : Rd H a (.lst xs)) : SqL K H a xs := .inl h
theorem md_cntB : MtD ⟨X.K, cl⟩ "list" (rCntF X.K) dCntB := by
  intro F H x xs dx ds d le hx hs e Q k1 k2
  unfold dCntB at e
  split at e
  · rename_i ys b
    split at e
    · rename_i bs hb
      cases e
      obtain ⟨v, rfl, z⟩ := hs.one
      cases z.bl
      obtain ⟨p, vs, rfl, s, r⟩ := hx.lst le
      have ev := blL_ok hb r
      subst ev
      refine ⟨p, _, .bl b, rfl, rfl, rd_sq s, rfl, by simp [flatV], k1 _ ?_⟩
      show V.int _ = V.int _
      rw [List.countP_map]
      rfl
    · cases e
  · cases e
theorem md_ixB : MtD ⟨X.K, cl⟩ "list" (rIndex X.K) dIxB := by
  intro F H x xs dx ds d le hx hs e Q k1 k2
  unfold dIxB at e
  split at e
  · rename_i ys b
    split at e
    · rename_i bs hb
      obtain ⟨hl, e⟩ := ite_ok e
      cases e
      obtain ⟨v, rfl, z⟩ := hs.one
      cases z.bl
      obtain ⟨p, vs, rfl, s, r⟩ := hx.lst le
      have ev := blL_ok hb r
      subst ev
      refine ⟨p, _, .bl b, bs.idxOf b, .bl b, rfl, rfl, rd_sq s, rfl, by simp [flatV], ?_, by simp [eqV], fun mm z' hm hz => ?_, k1 _ rfl⟩
      · rw [List.getElem?_map, List.getElem?_eq_getElem hl, List.getElem_idxOf]; rfl
      · rw [List.getElem?_map] at hz
        obtain ⟨c, hc, rfl⟩ := Option.map_eq_some_iff.mp hz
        have hml : mm < bs.length := Nat.lt_trans hm hl
        rw [List.getElem?_eq_getElem hml] at hc
        cases hc
        have := List.not_of_lt_findIdx (p := (· == b)) hm
        simpa [eqV] using this
    · cases e
  · cases e
def fListRg (f : SE) : SF := fun r m => do
  let (s, m1) ← f r m
  match s with
  | .val (.int n) => if 0 ≤ n ∧ n ≤ 1000 then .ok (.lst ((List.range n.toNat).map fun i => .int (i : Nat)), m1) else .bad
  | _ => .bad
theorem fe_listRg {a : Expr} {f : SE} {p p2 q pos : Pos} (hg : Gl X "list") (hm : X.mg "list" = none) (hg2 : Gl X "range") (hm2 : X.mg "range" = none) (ha : DE cl X a f) (hc : X.calm = true := by rfl) (na : starEach [a] X.env = (false, eval a X.env) :: starEach [] X.env := by rfl)
    (nb : starEach [.Call (.Name "range" p2) [a] [] q] X.env = (false, eval (.Call (.Name "range" p2) [a] [] q) X.env) :: starEach [] X.env := by rfl) : FE cl X (.Call (.Name "list" p) [.Call (.Name "range" p2) [a] [] q] [] pos) (fListRg f) := by
  obtain ⟨t, h1, h2⟩ := ha.ex
  refine ⟨_, pe_listRg hc hg hm (prg_1 hg2 hm2 h1 na) nb, fun W σ H r m R d0 m' e Q k => ?_⟩
  obtain ⟨⟨s0, m1⟩, e1, e⟩ := bind_ok e
  cases s0 with
  | un => cases e
  | ref j => cases e
  | val d =>
    cases d with
    | int n =>
      simp only at e
      obtain ⟨⟨h0, hz⟩, e⟩ := ite_ok e
      cases e
      refine h2 W σ H r m R _ _ e1 _ fun v W1 H1 w1 R1 z1 => ?_
      obtain rfl : v = .int n := z1
      refine ⟨n, rfl, RgOk.of_le (Int.le_refl _) (by omega) (by omega) h0, fun q hq => ?_⟩
      obtain ⟨R3, lo, w3⟩ := R1.new (o := .lst (rgV 0 n)) hq
      refine k q W1 _ (w1.trans w3) R3 (w1.free hq) lo ⟨_, upd_same, ?_⟩
      have e1 : rgV 0 n = ((List.range n.toNat).map fun i => ((i : Nat) : Int)).map V.int := by
        unfold rgV
        rw [List.map_map, Int.sub_zero]
        refine List.map_congr_left fun i _ => ?_
        show V.int _ = V.int _
        rw [Int.zero_add]
      have e2 : ((List.range n.toNat).map fun i => D.int ((i : Nat) : Int)) = ((List.range n.toNat).map fun i => ((i : Nat) : Int)).map D.int := by rw [List.map_map]; rfl
      rw [e1, e2]
      exact Reps.ints _
    | _ => cases e
end
end Nv
set_option Elab.async false
set_option linter.all false
set_option maxRecDepth 100000
set_option maxHeartbeats 8000000
namespace P01
open PySem PySem.Spec PyProof.Rows L2 Nv
def top (i : Nat) : Stmt := PySem.Challenge.pw_nevermet_k01_names_words_and_variables.main.body.getD i (.Pass ⟨0, 0, 0, 0⟩)
structure Glo (w : World) (K : PySem.W.Frag) (mg : Str → Option Value) (cl : Cl) : Prop where
  KeyError : mg "KeyError" = none
  LookupError : mg "LookupError" = none
  OverflowError : mg "OverflowError" = none
  ValueError : mg "ValueError" = none
  abs : mg "abs" = none
  all : mg "all" = none
  int : mg "int" = none
  isinstance : mg "isinstance" = none
  len : mg "len" = none
  list : mg "list" = none
  range : mg "range" = none
  repr : mg "repr" = none
  str : mg "str" = none
  c_BARRED : ConG K mg "BARRED" (.tup [.str ("self" : Str), .str ("head" : Str)])
  c_CAPITALS : ConG K mg "CAPITALS" (.str ("ABCDEFGHIJKLMNOPQRSTUVWXYZ" : Str))
  c_FIGURES : ConG K mg "FIGURES" (.str ("0123456789" : Str))
  c_LETTERS : ConG K mg "LETTERS" (.str ("abcdefghijklmnopqrstuvwxyz" : Str))
  c_LONGEST_NAME : ConG K mg "LONGEST_NAME" (.int 8)
  c_MOST_FIGURES : ConG K mg "MOST_FIGURES" (.int 3)
  nx_NeverError : mg "NeverError" = some (.ref (cl 0))
  nx_InvalidTerm : mg "InvalidTerm" = some (.ref (cl 1))
  nx_InvalidRule : mg "InvalidRule" = some (.ref (cl 2))
  nx_InvalidFunction : mg "InvalidFunction" = some (.ref (cl 3))
  nx_InvalidPackage : mg "InvalidPackage" = some (.ref (cl 4))
  nx_NoHouse : mg "NoHouse" = some (.ref (cl 5))
  nx_Refused : mg "Refused" = some (.ref (cl 6))
  nx_NotNext : mg "NotNext" = some (.ref (cl 7))
  nx_Mismatch : mg "Mismatch" = some (.ref (cl 8))
  nx_BadPaper : mg "BadPaper" = some (.ref (cl 9))
  nx_InvalidText : mg "InvalidText" = some (.ref (cl 10))
  nx_InvalidCommand : mg "InvalidCommand" = some (.ref (cl 11))
  nx_InvalidLimit : mg "InvalidLimit" = some (.ref (cl 12))
  nx_UnknownWord : mg "UnknownWord" = some (.ref (cl 13))
  nx_NoAnswer : mg "NoAnswer" = some (.ref (cl 14))
  nx_NoEdition : mg "NoEdition" = some (.ref (cl 15))
  nx_NothingToUndo : mg "NothingToUndo" = some (.ref (cl 16))
  nx_TooMany : mg "TooMany" = some (.ref (cl 17))
  xf_complaints : ∀ c ∈ ([6] : List Nat), ExcC K (cl c) ∧ PySem.W.findIn K (.ref (cl c)) "complaints" = some none
  xf_edition : ∀ c ∈ ([15] : List Nat), ExcC K (cl c) ∧ PySem.W.findIn K (.ref (cl c)) "edition" = some none
  xf_field : ∀ c ∈ ([4, 7] : List Nat), ExcC K (cl c) ∧ PySem.W.findIn K (.ref (cl c)) "field" = some none
  xf_index : ∀ c ∈ ([4, 7, 9] : List Nat), ExcC K (cl c) ∧ PySem.W.findIn K (.ref (cl c)) "index" = some none
  xf_limit : ∀ c ∈ ([12, 17] : List Nat), ExcC K (cl c) ∧ PySem.W.findIn K (.ref (cl c)) "limit" = some none
  xf_line : ∀ c ∈ ([10] : List Nat), ExcC K (cl c) ∧ PySem.W.findIn K (.ref (cl c)) "line" = some none
  xf_name : ∀ c ∈ ([5, 8, 15] : List Nat), ExcC K (cl c) ∧ PySem.W.findIn K (.ref (cl c)) "name" = some none
  xf_other : ∀ c ∈ ([8] : List Nat), ExcC K (cl c) ∧ PySem.W.findIn K (.ref (cl c)) "other" = some none
  xf_question : ∀ c ∈ ([14] : List Nat), ExcC K (cl c) ∧ PySem.W.findIn K (.ref (cl c)) "question" = some none
  xf_reason : ∀ c ∈ ([2, 3, 5] : List Nat), ExcC K (cl c) ∧ PySem.W.findIn K (.ref (cl c)) "reason" = some none
  xf_thing : ∀ c ∈ ([1] : List Nat), ExcC K (cl c) ∧ PySem.W.findIn K (.ref (cl c)) "thing" = some none
  xf_word : ∀ c ∈ ([11, 13] : List Nat), ExcC K (cl c) ∧ PySem.W.findIn K (.ref (cl c)) "word" = some none
  xi_BadPaper : ∀ q ∈ ([(1, false), (2, false), (3, false), (4, false), (5, false), (6, false), (7, false), (8, false), (9, true), (10, false), (11, false), (12, false), (13, false), (14, false), (15, false), (16, false), (17, false)] : List (Nat × Bool)), ExcC K (cl q.1) ∧ PySem.W.kitOne K (.ref (cl q.1)) (.ref (cl 9)) = some q.2
  xi_InvalidCommand : ∀ q ∈ ([(1, false), (2, false), (3, false), (4, false), (5, false), (6, false), (7, false), (8, false), (9, false), (10, false), (11, true), (12, false), (13, false), (14, false), (15, false), (16, false), (17, false)] : List (Nat × Bool)), ExcC K (cl q.1) ∧ PySem.W.kitOne K (.ref (cl q.1)) (.ref (cl 11)) = some q.2
  xi_InvalidFunction : ∀ q ∈ ([(1, false), (2, false), (3, true), (4, false), (5, false), (6, false), (7, false), (8, false), (9, false), (10, false), (11, false), (12, false), (13, false), (14, false), (15, false), (16, false), (17, false)] : List (Nat × Bool)), ExcC K (cl q.1) ∧ PySem.W.kitOne K (.ref (cl q.1)) (.ref (cl 3)) = some q.2
  xi_InvalidLimit : ∀ q ∈ ([(1, false), (2, false), (3, false), (4, false), (5, false), (6, false), (7, false), (8, false), (9, false), (10, false), (11, false), (12, true), (13, false), (14, false), (15, false), (16, false), (17, false)] : List (Nat × Bool)), ExcC K (cl q.1) ∧ PySem.W.kitOne K (.ref (cl q.1)) (.ref (cl 12)) = some q.2
  xi_InvalidPackage : ∀ q ∈ ([(1, false), (2, false), (3, false), (4, true), (5, false), (6, false), (7, false), (8, false), (9, false), (10, false), (11, false), (12, false), (13, false), (14, false), (15, false), (16, false), (17, false)] : List (Nat × Bool)), ExcC K (cl q.1) ∧ PySem.W.kitOne K (.ref (cl q.1)) (.ref (cl 4)) = some q.2
  xi_InvalidRule : ∀ q ∈ ([(1, false), (2, true), (3, false), (4, false), (5, false), (6, false), (7, false), (8, false), (9, false), (10, false), (11, false), (12, false), (13, false), (14, false), (15, false), (16, false), (17, false)] : List (Nat × Bool)), ExcC K (cl q.1) ∧ PySem.W.kitOne K (.ref (cl q.1)) (.ref (cl 2)) = some q.2
  xi_InvalidTerm : ∀ q ∈ ([(1, true), (2, false), (3, false), (4, false), (5, false), (6, false), (7, false), (8, false), (9, false), (10, false), (11, false), (12, false), (13, false), (14, false), (15, false), (16, false), (17, false)] : List (Nat × Bool)), ExcC K (cl q.1) ∧ PySem.W.kitOne K (.ref (cl q.1)) (.ref (cl 1)) = some q.2
  xi_InvalidText : ∀ q ∈ ([(1, false), (2, false), (3, false), (4, false), (5, false), (6, false), (7, false), (8, false), (9, false), (10, true), (11, false), (12, false), (13, false), (14, false), (15, false), (16, false), (17, false)] : List (Nat × Bool)), ExcC K (cl q.1) ∧ PySem.W.kitOne K (.ref (cl q.1)) (.ref (cl 10)) = some q.2
  xi_Mismatch : ∀ q ∈ ([(1, false), (2, false), (3, false), (4, false), (5, false), (6, false), (7, false), (8, true), (9, false), (10, false), (11, false), (12, false), (13, false), (14, false), (15, false), (16, false), (17, false)] : List (Nat × Bool)), ExcC K (cl q.1) ∧ PySem.W.kitOne K (.ref (cl q.1)) (.ref (cl 8)) = some q.2
  xi_NeverError : ∀ q ∈ ([(1, true), (2, true), (3, true), (4, true), (5, true), (6, true), (7, true), (8, true), (9, true), (10, true), (11, true), (12, true), (13, false), (14, false), (15, false), (16, false), (17, false)] : List (Nat × Bool)), ExcC K (cl q.1) ∧ PySem.W.kitOne K (.ref (cl q.1)) (.ref (cl 0)) = some q.2
  xi_NoAnswer : ∀ q ∈ ([(1, false), (2, false), (3, false), (4, false), (5, false), (6, false), (7, false), (8, false), (9, false), (10, false), (11, false), (12, false), (13, false), (14, true), (15, false), (16, false), (17, false)] : List (Nat × Bool)), ExcC K (cl q.1) ∧ PySem.W.kitOne K (.ref (cl q.1)) (.ref (cl 14)) = some q.2
  xi_NoEdition : ∀ q ∈ ([(1, false), (2, false), (3, false), (4, false), (5, false), (6, false), (7, false), (8, false), (9, false), (10, false), (11, false), (12, false), (13, false), (14, false), (15, true), (16, false), (17, false)] : List (Nat × Bool)), ExcC K (cl q.1) ∧ PySem.W.kitOne K (.ref (cl q.1)) (.ref (cl 15)) = some q.2
  xi_NoHouse : ∀ q ∈ ([(1, false), (2, false), (3, false), (4, false), (5, true), (6, false), (7, false), (8, false), (9, false), (10, false), (11, false), (12, false), (13, false), (14, false), (15, false), (16, false), (17, false)] : List (Nat × Bool)), ExcC K (cl q.1) ∧ PySem.W.kitOne K (.ref (cl q.1)) (.ref (cl 5)) = some q.2
  xi_NotNext : ∀ q ∈ ([(1, false), (2, false), (3, false), (4, false), (5, false), (6, false), (7, true), (8, false), (9, false), (10, false), (11, false), (12, false), (13, false), (14, false), (15, false), (16, false), (17, false)] : List (Nat × Bool)), ExcC K (cl q.1) ∧ PySem.W.kitOne K (.ref (cl q.1)) (.ref (cl 7)) = some q.2
  xi_NothingToUndo : ∀ q ∈ ([(1, false), (2, false), (3, false), (4, false), (5, false), (6, false), (7, false), (8, false), (9, false), (10, false), (11, false), (12, false), (13, false), (14, false), (15, false), (16, true), (17, false)] : List (Nat × Bool)), ExcC K (cl q.1) ∧ PySem.W.kitOne K (.ref (cl q.1)) (.ref (cl 16)) = some q.2
  xi_Refused : ∀ q ∈ ([(1, false), (2, false), (3, false), (4, false), (5, false), (6, true), (7, false), (8, false), (9, false), (10, false), (11, false), (12, false), (13, false), (14, false), (15, false), (16, false), (17, false)] : List (Nat × Bool)), ExcC K (cl q.1) ∧ PySem.W.kitOne K (.ref (cl q.1)) (.ref (cl 6)) = some q.2
  xi_TooMany : ∀ q ∈ ([(1, false), (2, false), (3, false), (4, false), (5, false), (6, false), (7, false), (8, false), (9, false), (10, false), (11, false), (12, false), (13, false), (14, false), (15, false), (16, false), (17, true)] : List (Nat × Bool)), ExcC K (cl q.1) ∧ PySem.W.kitOne K (.ref (cl q.1)) (.ref (cl 17)) = some q.2
  xi_UnknownWord : ∀ q ∈ ([(1, false), (2, false), (3, false), (4, false), (5, false), (6, false), (7, false), (8, false), (9, false), (10, false), (11, false), (12, false), (13, true), (14, false), (15, false), (16, false), (17, false)] : List (Nat × Bool)), ExcC K (cl q.1) ∧ PySem.W.kitOne K (.ref (cl q.1)) (.ref (cl 13)) = some q.2
  xb_KeyError : ∀ q ∈ ([(1, false), (2, false), (3, false), (4, false), (5, false), (6, false), (7, false), (8, false), (9, false), (10, false), (11, false), (12, false), (13, true), (14, true), (15, true), (16, false), (17, false)] : List (Nat × Bool)), ExcC K (cl q.1) ∧ PySem.W.kitOne K (.ref (cl q.1)) (.type "KeyError") = some q.2
  xb_LookupError : ∀ q ∈ ([(1, false), (2, false), (3, false), (4, false), (5, false), (6, false), (7, false), (8, false), (9, false), (10, false), (11, false), (12, false), (13, true), (14, true), (15, true), (16, true), (17, false)] : List (Nat × Bool)), ExcC K (cl q.1) ∧ PySem.W.kitOne K (.ref (cl q.1)) (.type "LookupError") = some q.2
  xb_OverflowError : ∀ q ∈ ([(1, false), (2, false), (3, false), (4, false), (5, false), (6, false), (7, false), (8, false), (9, false), (10, false), (11, false), (12, false), (13, false), (14, false), (15, false), (16, false), (17, true)] : List (Nat × Bool)), ExcC K (cl q.1) ∧ PySem.W.kitOne K (.ref (cl q.1)) (.type "OverflowError") = some q.2
  xb_ValueError : ∀ q ∈ ([(1, true), (2, true), (3, true), (4, true), (5, true), (6, true), (7, true), (8, true), (9, true), (10, true), (11, true), (12, true), (13, false), (14, false), (15, false), (16, false), (17, false)] : List (Nat × Bool)), ExcC K (cl q.1) ∧ PySem.W.kitOne K (.ref (cl q.1)) (.type "ValueError") = some q.2
abbrev t_is_name : Stmt := top 7
abbrev N_is_name : List Str := ["thing", "sign"]
theorem sc_is_name : FnScope N_is_name ["thing"] (defScope t_is_name) := ⟨rfl, rfl, rfl, by decide +kernel, rfl, by decide +kernel, by decide +kernel⟩
def b_is_name : SS := sSeq (sIfS (bOr (bNot (bTru (sIsi "str" (sVar 0)))) (bOr (bNot (bOf (sChain dLe dLe (sC (.int 1)) (sFz (sN dLen (aCons (sVar 0) aNil))) (sC (.int 8))))) (bOf (sOp dIn (sVar 0) (sC (.tup [.str ("self" : Str), .str ("head" : Str)])))))) (sRet (sC (.bl false))) sNx)
    (sRet (sFz (sN dAll (aCons (sFz (fLc [1] (iOf (sVar 0)) (gN 1) bYes (sOp dIn (sVar 1) (sC (.str ("abcdefghijklmnopqrstuvwxyz" : Str)))))) aNil))))
def g_is_name : Fn := fnOf 2 b_is_name
theorem d_is_name {P : Program} {w : World} {K : PySem.W.Frag} {mg : Str → Option Value} {base : Heap} {cl : Cl} (T : Glo w K mg cl) (hB : SysB base)  {f : Addr} {fd : FuncData} (F : Fun K "is_name" "is_name" t_is_name f fd) : FnG P w K mg base 1 f fd ["thing"] (toSp ⟨K, cl⟩ 1 g_is_name) := by
  have nd := sc_is_name.nd
  exact (ok_fn (P := P) (w := w) (mg := mg) (base := base) (cl := cl) (k := 0) (body := b_is_name) F sc_is_name (fun cdv A outer s H E hr => dss_cons (ds_if (DW.dt (dw_or (dt_not (dt_tru (de_isi (de_var 0) (by rfl) T.isinstance (by decide +kernel) (by rfl) T.str (by decide +kernel)))) (dw_or (dt_not (dt_chain op_le od_cmpI op_le od_cmpI de_int (de_callB call_len ca_len (by rfl) T.len (by decide +kernel) (da_cons (de_var 0) da_nil)) (de_con (by rfl) T.c_LONGEST_NAME))) (dw_or1 (dt_cmp (op_inAll (hu65 hr)) od_in (de_var 0) (de_con (by rfl) T.c_BARRED)))))) (dss_one (ds_ret de_bl)) dss_nil)
    (dss_one (ds_ret (de_callB (cr_all rfl) ca_all (by rfl) T.all (by decide +kernel) (da_cons (FE.fz (fe_lc (own := [("sign", 1)]) rfl nd (di_any (de_var 0)) (blkOk_by (N := N_is_name) (sc := defScope t_is_name) (by decide +kernel)) (fun _ _ _ _ _ => dg_name (i := 1) nd rfl (by first | exact Or.inl rfl | exact Or.inr rfl)) (fun _ _ _ _ _ => dts_nil) (fun _ _ _ _ _ => de_cmp (op_inAll (hu65 hr)) od_in (de_var 1) (de_con (by rfl) T.c_LETTERS)))) da_nil))))) :)
abbrev t_is_word : Stmt := top 8
abbrev N_is_word : List Str := ["thing", "parts"]
theorem sc_is_word : FnScope N_is_word ["thing"] (defScope t_is_word) := ⟨rfl, rfl, rfl, by decide +kernel, rfl, by decide +kernel, by decide +kernel⟩
def b_is_word : SS := sSeq (sIfS (bNot (bTru (sIsi "str" (sVar 0)))) (sRet (sC (.bl false))) sNx)
    (sSeq (sSet 1 (sFz (sMt "str" dSplit (sVar 0) (aCons (sC (.str ("." : Str))) aNil))))
    (sRet (sAnd (sOp dEq (sFz (sN dLen (aCons (sVar 1) aNil))) (sC (.int 2))) (sAnd (sCall [false] g_is_name (aCons (sOp dIx (sVar 1) (sC (.int 0))) aNil)) (sCall [false] g_is_name (aCons (sOp dIx (sVar 1) (sC (.int 1))) aNil))))))
def g_is_word : Fn := fnOf 2 b_is_word
theorem d_is_word {P : Program} {w : World} {K : PySem.W.Frag} {mg : Str → Option Value} {base : Heap} {cl : Cl} (T : Glo w K mg cl) (hB : SysB base) (C_is_name : Cal P w K mg base cl "is_name" t_is_name 1 ["thing"] g_is_name) {f : Addr} {fd : FuncData} (F : Fun K "is_word" "is_word" t_is_word f fd) : FnG P w K mg base 2 f fd ["thing"] (toSp ⟨K, cl⟩ 1 g_is_word) := by
  have nd := sc_is_word.nd
  exact (ok_fn (P := P) (w := w) (mg := mg) (base := base) (cl := cl) (k := 1) (body := b_is_word) F sc_is_word (fun cdv A outer s H E hr => dss_cons (ds_if (dt_not (dt_tru (de_isi (de_var 0) (by rfl) T.isinstance (by decide +kernel) (by rfl) T.str (by decide +kernel)))) (dss_one (ds_ret de_bl)) dss_nil)
    (dss_cons (ds_set (i := 1) nd rfl (by first | exact Or.inl rfl | exact Or.inr rfl) (FE.fz (fe_bm PySem.F.plainAttrs_str PySem.F.slot_str_split PySem.F.type_str_split mt_split mf_split (de_var 0) (da_cons de_str da_nil))))
    (dss_one (ds_ret (de_and (de_cmp (op_eqD (hu65 hr)) od_eq (de_callB call_len ca_len (by rfl) T.len (by decide +kernel) (da_cons (de_var 1) da_nil)) de_int) (de_and (c_call C_is_name (hr.mono (by decide)) (by rfl) [false] rfl (da_cons (de_ix (de_var 1) de_int) da_nil)) (de_one (c_call C_is_name (hr.mono (by decide)) (by rfl) [false] rfl (da_cons (de_ix (de_var 1) de_int) da_nil))))))))) :)
abbrev t_is_variable : Stmt := top 9
abbrev N_is_variable : List Str := ["thing", "sign"]
theorem sc_is_variable : FnScope N_is_variable ["thing"] (defScope t_is_variable) := ⟨rfl, rfl, rfl, by decide +kernel, rfl, by decide +kernel, by decide +kernel⟩
def b_is_variable : SS := sSeq (sIfS (bOr (bNot (bTru (sIsi "str" (sVar 0)))) (bOr (bNot (bOf (sChain dLe dLe (sC (.int 1)) (sFz (sN dLen (aCons (sVar 0) aNil))) (sOp dAdd (sC (.int 1)) (sC (.int 3)))))) (bOf (sOp dNotIn (sOp dIx (sVar 0) (sC (.int 0))) (sC (.str ("ABCDEFGHIJKLMNOPQRSTUVWXYZ" : Str))))))) (sRet (sC (.bl false))) sNx)
    (sRet (sFz (sN dAll (aCons (sFz (fLc [1] (iOf (sSl (sVar 0) (oSome (sC (.int 1))) oNone)) (gN 1) bYes (sOp dIn (sVar 1) (sC (.str ("0123456789" : Str)))))) aNil))))
def g_is_variable : Fn := fnOf 2 b_is_variable
theorem d_is_variable {P : Program} {w : World} {K : PySem.W.Frag} {mg : Str → Option Value} {base : Heap} {cl : Cl} (T : Glo w K mg cl) (hB : SysB base)  {f : Addr} {fd : FuncData} (F : Fun K "is_variable" "is_variable" t_is_variable f fd) : FnG P w K mg base 1 f fd ["thing"] (toSp ⟨K, cl⟩ 1 g_is_variable) := by
  have nd := sc_is_variable.nd
  exact (ok_fn (P := P) (w := w) (mg := mg) (base := base) (cl := cl) (k := 0) (body := b_is_variable) F sc_is_variable (fun cdv A outer s H E hr => dss_cons (ds_if (DW.dt (dw_or (dt_not (dt_tru (de_isi (de_var 0) (by rfl) T.isinstance (by decide +kernel) (by rfl) T.str (by decide +kernel)))) (dw_or (dt_not (dt_chain op_le od_cmpI op_le od_cmpI de_int (de_callB call_len ca_len (by rfl) T.len (by decide +kernel) (da_cons (de_var 0) da_nil)) (de_add de_int (de_con (by rfl) T.c_MOST_FIGURES)))) (dw_or1 (dt_cmp (op_notInAll (hu65 hr)) od_notIn (de_ix (de_var 0) de_int) (de_con (by rfl) T.c_CAPITALS)))))) (dss_one (ds_ret de_bl)) dss_nil)
    (dss_one (ds_ret (de_callB (cr_all rfl) ca_all (by rfl) T.all (by decide +kernel) (da_cons (FE.fz (fe_lc (own := [("sign", 1)]) rfl nd (di_any (de_slice (de_var 0) (do_some de_int) do_none)) (blkOk_by (N := N_is_variable) (sc := defScope t_is_variable) (by decide +kernel)) (fun _ _ _ _ _ => dg_name (i := 1) nd rfl (by first | exact Or.inl rfl | exact Or.inr rfl)) (fun _ _ _ _ _ => dts_nil) (fun _ _ _ _ _ => de_cmp (op_inAll (hu65 hr)) od_in (de_var 1) (de_con (by rfl) T.c_FIGURES)))) da_nil))))) :)
abbrev t_InvalidTerm_init__ : Stmt := inClass (top 12) 0
abbrev N_InvalidTerm_init__ : List Str := ["self", "thing"]
theorem sc_InvalidTerm_init__ : FnScope N_InvalidTerm_init__ ["self", "thing"] (defScope t_InvalidTerm_init__) := ⟨rfl, rfl, rfl, by decide +kernel, rfl, by decide +kernel, by decide +kernel⟩
theorem d_InvalidTerm_init__ {P : Program} {w : World} {K : PySem.W.Frag} {mg : Str → Option Value} {base : Heap} {f : Addr} {fd : FuncData} (F : Fun K "__init__" "InvalidTerm.__init__" t_InvalidTerm_init__ f fd) (b : XBs K mg "NeverError" "ValueError.__init__") : FnG P w K mg base 1 f fd ["self", "thing"] (SpXI K "ValueError.__init__" ["thing"]) := by
  have nd := sc_InvalidTerm_init__.nd
  exact (ok_xinit1 (P := P) (w := w) (mg := mg) (base := base) (k := 0) F sc_InvalidTerm_init__ rfl (fun cdv A outer s H E => pss_cons (ps_expr (pe_xi b (by rfl) (pa_cons (pv 0) (pa_cons pe_str pa_nil)))) (pss_one (ps_xst (pv 0) (pv 1)))) :)
abbrev t_InvalidRule_init__ : Stmt := inClass (top 13) 0
abbrev N_InvalidRule_init__ : List Str := ["self", "reason"]
theorem sc_InvalidRule_init__ : FnScope N_InvalidRule_init__ ["self", "reason"] (defScope t_InvalidRule_init__) := ⟨rfl, rfl, rfl, by decide +kernel, rfl, by decide +kernel, by decide +kernel⟩
theorem d_InvalidRule_init__ {P : Program} {w : World} {K : PySem.W.Frag} {mg : Str → Option Value} {base : Heap} {f : Addr} {fd : FuncData} (F : Fun K "__init__" "InvalidRule.__init__" t_InvalidRule_init__ f fd) (b : XBs K mg "NeverError" "ValueError.__init__") : FnG P w K mg base 1 f fd ["self", "reason"] (SpXI K "ValueError.__init__" ["reason"]) := by
  have nd := sc_InvalidRule_init__.nd
  exact (ok_xinit1 (P := P) (w := w) (mg := mg) (base := base) (k := 0) F sc_InvalidRule_init__ rfl (fun cdv A outer s H E => pss_cons (ps_expr (pe_xi b (by rfl) (pa_cons (pv 0) (pa_cons pe_str pa_nil)))) (pss_one (ps_xst (pv 0) (pv 1)))) :)
abbrev t_InvalidFunction_init__ : Stmt := inClass (top 14) 0
abbrev N_InvalidFunction_init__ : List Str := ["self", "reason"]
theorem sc_InvalidFunction_init__ : FnScope N_InvalidFunction_init__ ["self", "reason"] (defScope t_InvalidFunction_init__) := ⟨rfl, rfl, rfl, by decide +kernel, rfl, by decide +kernel, by decide +kernel⟩
theorem d_InvalidFunction_init__ {P : Program} {w : World} {K : PySem.W.Frag} {mg : Str → Option Value} {base : Heap} {f : Addr} {fd : FuncData} (F : Fun K "__init__" "InvalidFunction.__init__" t_InvalidFunction_init__ f fd) (b : XBs K mg "NeverError" "ValueError.__init__") : FnG P w K mg base 1 f fd ["self", "reason"] (SpXI K "ValueError.__init__" ["reason"]) := by
  have nd := sc_InvalidFunction_init__.nd
  exact (ok_xinit1 (P := P) (w := w) (mg := mg) (base := base) (k := 0) F sc_InvalidFunction_init__ rfl (fun cdv A outer s H E => pss_cons (ps_expr (pe_xi b (by rfl) (pa_cons (pv 0) (pa_cons pe_str pa_nil)))) (pss_one (ps_xst (pv 0) (pv 1)))) :)
abbrev t_InvalidPackage_init__ : Stmt := inClass (top 15) 0
abbrev N_InvalidPackage_init__ : List Str := ["self", "field", "index"]
theorem sc_InvalidPackage_init__ : FnScope N_InvalidPackage_init__ ["self", "field", "index"] (defScope t_InvalidPackage_init__) := ⟨rfl, rfl, rfl, by decide +kernel, rfl, by decide +kernel, by decide +kernel⟩
theorem d_InvalidPackage_init__ {P : Program} {w : World} {K : PySem.W.Frag} {mg : Str → Option Value} {base : Heap} {f : Addr} {fd : FuncData} (F : Fun K "__init__" "InvalidPackage.__init__" t_InvalidPackage_init__ f fd) (b : XBs K mg "NeverError" "ValueError.__init__") : FnG P w K mg base 1 f fd ["self", "field", "index"] (SpXI K "ValueError.__init__" ["field", "index"]) := by
  have nd := sc_InvalidPackage_init__.nd
  exact (ok_xinit2 (P := P) (w := w) (mg := mg) (base := base) (k := 0) F sc_InvalidPackage_init__ rfl (fun cdv A outer s H E => pss_cons (ps_expr (pe_xi b (by rfl) (pa_cons (pv 0) (pa_cons pe_str pa_nil)))) (pss_cons (ps_xst (pv 0) (pv 1)) (pss_one (ps_xst (pv 0) (pv 2))))) :)
abbrev t_NoHouse_init__ : Stmt := inClass (top 16) 0
abbrev N_NoHouse_init__ : List Str := ["self", "reason", "name"]
theorem sc_NoHouse_init__ : FnScope N_NoHouse_init__ ["self", "reason", "name"] (defScope t_NoHouse_init__) := ⟨rfl, rfl, rfl, by decide +kernel, rfl, by decide +kernel, by decide +kernel⟩
theorem d_NoHouse_init__ {P : Program} {w : World} {K : PySem.W.Frag} {mg : Str → Option Value} {base : Heap} {f : Addr} {fd : FuncData} (F : Fun K "__init__" "NoHouse.__init__" t_NoHouse_init__ f fd) (b : XBs K mg "NeverError" "ValueError.__init__") : FnG P w K mg base 1 f fd ["self", "reason", "name"] (SpXI K "ValueError.__init__" ["reason", "name"]) := by
  have nd := sc_NoHouse_init__.nd
  exact (ok_xinit2 (P := P) (w := w) (mg := mg) (base := base) (k := 0) F sc_NoHouse_init__ rfl (fun cdv A outer s H E => pss_cons (ps_expr (pe_xi b (by rfl) (pa_cons (pv 0) (pa_cons pe_str pa_nil)))) (pss_cons (ps_xst (pv 0) (pv 1)) (pss_one (ps_xst (pv 0) (pv 2))))) :)
abbrev t_Refused_init__ : Stmt := inClass (top 17) 0
abbrev N_Refused_init__ : List Str := ["self", "complaints"]
theorem sc_Refused_init__ : FnScope N_Refused_init__ ["self", "complaints"] (defScope t_Refused_init__) := ⟨rfl, rfl, rfl, by decide +kernel, rfl, by decide +kernel, by decide +kernel⟩
theorem d_Refused_init__ {P : Program} {w : World} {K : PySem.W.Frag} {mg : Str → Option Value} {base : Heap} {f : Addr} {fd : FuncData} (F : Fun K "__init__" "Refused.__init__" t_Refused_init__ f fd) (b : XBs K mg "NeverError" "ValueError.__init__") : FnG P w K mg base 1 f fd ["self", "complaints"] (SpXI K "ValueError.__init__" ["complaints"]) := by
  have nd := sc_Refused_init__.nd
  exact (ok_xinit1 (P := P) (w := w) (mg := mg) (base := base) (k := 0) F sc_Refused_init__ rfl (fun cdv A outer s H E => pss_cons (ps_expr (pe_xi b (by rfl) (pa_cons (pv 0) (pa_cons pe_str pa_nil)))) (pss_one (ps_xst (pv 0) (pv 1)))) :)
abbrev t_NotNext_init__ : Stmt := inClass (top 18) 0
abbrev N_NotNext_init__ : List Str := ["self", "field", "index"]
theorem sc_NotNext_init__ : FnScope N_NotNext_init__ ["self", "field", "index"] (defScope t_NotNext_init__) := ⟨rfl, rfl, rfl, by decide +kernel, rfl, by decide +kernel, by decide +kernel⟩
theorem d_NotNext_init__ {P : Program} {w : World} {K : PySem.W.Frag} {mg : Str → Option Value} {base : Heap} {f : Addr} {fd : FuncData} (F : Fun K "__init__" "NotNext.__init__" t_NotNext_init__ f fd) (b : XBs K mg "NeverError" "ValueError.__init__") : FnG P w K mg base 1 f fd ["self", "field", "index"] (SpXI K "ValueError.__init__" ["field", "index"]) := by
  have nd := sc_NotNext_init__.nd
  exact (ok_xinit2 (P := P) (w := w) (mg := mg) (base := base) (k := 0) F sc_NotNext_init__ rfl (fun cdv A outer s H E => pss_cons (ps_expr (pe_xi b (by rfl) (pa_cons (pv 0) (pa_cons pe_str pa_nil)))) (pss_cons (ps_xst (pv 0) (pv 1)) (pss_one (ps_xst (pv 0) (pv 2))))) :)
abbrev t_Mismatch_init__ : Stmt := inClass (top 19) 0
abbrev N_Mismatch_init__ : List Str := ["self", "name", "other"]
theorem sc_Mismatch_init__ : FnScope N_Mismatch_init__ ["self", "name", "other"] (defScope t_Mismatch_init__) := ⟨rfl, rfl, rfl, by decide +kernel, rfl, by decide +kernel, by decide +kernel⟩
theorem d_Mismatch_init__ {P : Program} {w : World} {K : PySem.W.Frag} {mg : Str → Option Value} {base : Heap} {f : Addr} {fd : FuncData} (F : Fun K "__init__" "Mismatch.__init__" t_Mismatch_init__ f fd) (b : XBs K mg "NeverError" "ValueError.__init__") : FnG P w K mg base 1 f fd ["self", "name", "other"] (SpXI K "ValueError.__init__" ["name", "other"]) := by
  have nd := sc_Mismatch_init__.nd
  exact (ok_xinit2 (P := P) (w := w) (mg := mg) (base := base) (k := 0) F sc_Mismatch_init__ rfl (fun cdv A outer s H E => pss_cons (ps_expr (pe_xi b (by rfl) (pa_cons (pv 0) (pa_cons pe_str pa_nil)))) (pss_cons (ps_xst (pv 0) (pv 1)) (pss_one (ps_xst (pv 0) (pv 2))))) :)
abbrev t_BadPaper_init__ : Stmt := inClass (top 20) 0
abbrev N_BadPaper_init__ : List Str := ["self", "index"]
theorem sc_BadPaper_init__ : FnScope N_BadPaper_init__ ["self", "index"] (defScope t_BadPaper_init__) := ⟨rfl, rfl, rfl, by decide +kernel, rfl, by decide +kernel, by decide +kernel⟩
theorem d_BadPaper_init__ {P : Program} {w : World} {K : PySem.W.Frag} {mg : Str → Option Value} {base : Heap} {f : Addr} {fd : FuncData} (F : Fun K "__init__" "BadPaper.__init__" t_BadPaper_init__ f fd) (b : XBs K mg "NeverError" "ValueError.__init__") : FnG P w K mg base 1 f fd ["self", "index"] (SpXI K "ValueError.__init__" ["index"]) := by
  have nd := sc_BadPaper_init__.nd
  exact (ok_xinit1 (P := P) (w := w) (mg := mg) (base := base) (k := 0) F sc_BadPaper_init__ rfl (fun cdv A outer s H E => pss_cons (ps_expr (pe_xi b (by rfl) (pa_cons (pv 0) (pa_cons pe_str pa_nil)))) (pss_one (ps_xst (pv 0) (pv 1)))) :)
abbrev t_InvalidText_init__ : Stmt := inClass (top 21) 0
abbrev N_InvalidText_init__ : List Str := ["self", "line"]
theorem sc_InvalidText_init__ : FnScope N_InvalidText_init__ ["self", "line"] (defScope t_InvalidText_init__) := ⟨rfl, rfl, rfl, by decide +kernel, rfl, by decide +kernel, by decide +kernel⟩
theorem d_InvalidText_init__ {P : Program} {w : World} {K : PySem.W.Frag} {mg : Str → Option Value} {base : Heap} {f : Addr} {fd : FuncData} (F : Fun K "__init__" "InvalidText.__init__" t_InvalidText_init__ f fd) (b : XBs K mg "NeverError" "ValueError.__init__") : FnG P w K mg base 1 f fd ["self", "line"] (SpXI K "ValueError.__init__" ["line"]) := by
  have nd := sc_InvalidText_init__.nd
  exact (ok_xinit1 (P := P) (w := w) (mg := mg) (base := base) (k := 0) F sc_InvalidText_init__ rfl (fun cdv A outer s H E => pss_cons (ps_expr (pe_xi b (by rfl) (pa_cons (pv 0) (pa_cons pe_str pa_nil)))) (pss_one (ps_xst (pv 0) (pv 1)))) :)
abbrev t_InvalidCommand_init__ : Stmt := inClass (top 22) 0
abbrev N_InvalidCommand_init__ : List Str := ["self", "word"]
theorem sc_InvalidCommand_init__ : FnScope N_InvalidCommand_init__ ["self", "word"] (defScope t_InvalidCommand_init__) := ⟨rfl, rfl, rfl, by decide +kernel, rfl, by decide +kernel, by decide +kernel⟩
theorem d_InvalidCommand_init__ {P : Program} {w : World} {K : PySem.W.Frag} {mg : Str → Option Value} {base : Heap} {f : Addr} {fd : FuncData} (F : Fun K "__init__" "InvalidCommand.__init__" t_InvalidCommand_init__ f fd) (b : XBs K mg "NeverError" "ValueError.__init__") : FnG P w K mg base 1 f fd ["self", "word"] (SpXI K "ValueError.__init__" ["word"]) := by
  have nd := sc_InvalidCommand_init__.nd
  exact (ok_xinit1 (P := P) (w := w) (mg := mg) (base := base) (k := 0) F sc_InvalidCommand_init__ rfl (fun cdv A outer s H E => pss_cons (ps_expr (pe_xi b (by rfl) (pa_cons (pv 0) (pa_cons pe_str pa_nil)))) (pss_one (ps_xst (pv 0) (pv 1)))) :)
abbrev t_InvalidLimit_init__ : Stmt := inClass (top 23) 0
abbrev N_InvalidLimit_init__ : List Str := ["self", "limit"]
theorem sc_InvalidLimit_init__ : FnScope N_InvalidLimit_init__ ["self", "limit"] (defScope t_InvalidLimit_init__) := ⟨rfl, rfl, rfl, by decide +kernel, rfl, by decide +kernel, by decide +kernel⟩
theorem d_InvalidLimit_init__ {P : Program} {w : World} {K : PySem.W.Frag} {mg : Str → Option Value} {base : Heap} {f : Addr} {fd : FuncData} (F : Fun K "__init__" "InvalidLimit.__init__" t_InvalidLimit_init__ f fd) (b : XBs K mg "NeverError" "ValueError.__init__") : FnG P w K mg base 1 f fd ["self", "limit"] (SpXI K "ValueError.__init__" ["limit"]) := by
  have nd := sc_InvalidLimit_init__.nd
  exact (ok_xinit1 (P := P) (w := w) (mg := mg) (base := base) (k := 0) F sc_InvalidLimit_init__ rfl (fun cdv A outer s H E => pss_cons (ps_expr (pe_xi b (by rfl) (pa_cons (pv 0) (pa_cons pe_str pa_nil)))) (pss_one (ps_xst (pv 0) (pv 1)))) :)
abbrev t_UnknownWord_init__ : Stmt := inClass (top 24) 0
abbrev N_UnknownWord_init__ : List Str := ["self", "word"]
theorem sc_UnknownWord_init__ : FnScope N_UnknownWord_init__ ["self", "word"] (defScope t_UnknownWord_init__) := ⟨rfl, rfl, rfl, by decide +kernel, rfl, by decide +kernel, by decide +kernel⟩
theorem d_UnknownWord_init__ {P : Program} {w : World} {K : PySem.W.Frag} {mg : Str → Option Value} {base : Heap} {f : Addr} {fd : FuncData} (F : Fun K "__init__" "UnknownWord.__init__" t_UnknownWord_init__ f fd) (b : XBs K mg "KeyError" "KeyError.__init__") : FnG P w K mg base 1 f fd ["self", "word"] (SpXI K "KeyError.__init__" ["word"]) := by
  have nd := sc_UnknownWord_init__.nd
  exact (ok_xinit1 (P := P) (w := w) (mg := mg) (base := base) (k := 0) F sc_UnknownWord_init__ rfl (fun cdv A outer s H E => pss_cons (ps_expr (pe_xi b (by rfl) (pa_cons (pv 0) (pa_cons pe_str pa_nil)))) (pss_one (ps_xst (pv 0) (pv 1)))) :)
abbrev t_NoAnswer_init__ : Stmt := inClass (top 25) 0
abbrev N_NoAnswer_init__ : List Str := ["self", "question"]
theorem sc_NoAnswer_init__ : FnScope N_NoAnswer_init__ ["self", "question"] (defScope t_NoAnswer_init__) := ⟨rfl, rfl, rfl, by decide +kernel, rfl, by decide +kernel, by decide +kernel⟩
theorem d_NoAnswer_init__ {P : Program} {w : World} {K : PySem.W.Frag} {mg : Str → Option Value} {base : Heap} {f : Addr} {fd : FuncData} (F : Fun K "__init__" "NoAnswer.__init__" t_NoAnswer_init__ f fd) (b : XBs K mg "KeyError" "KeyError.__init__") : FnG P w K mg base 1 f fd ["self", "question"] (SpXI K "KeyError.__init__" ["question"]) := by
  have nd := sc_NoAnswer_init__.nd
  exact (ok_xinit1 (P := P) (w := w) (mg := mg) (base := base) (k := 0) F sc_NoAnswer_init__ rfl (fun cdv A outer s H E => pss_cons (ps_expr (pe_xi b (by rfl) (pa_cons (pv 0) (pa_cons pe_str pa_nil)))) (pss_one (ps_xst (pv 0) (pv 1)))) :)
abbrev t_NoEdition_init__ : Stmt := inClass (top 26) 0
abbrev N_NoEdition_init__ : List Str := ["self", "name", "edition"]
theorem sc_NoEdition_init__ : FnScope N_NoEdition_init__ ["self", "name", "edition"] (defScope t_NoEdition_init__) := ⟨rfl, rfl, rfl, by decide +kernel, rfl, by decide +kernel, by decide +kernel⟩
theorem d_NoEdition_init__ {P : Program} {w : World} {K : PySem.W.Frag} {mg : Str → Option Value} {base : Heap} {f : Addr} {fd : FuncData} (F : Fun K "__init__" "NoEdition.__init__" t_NoEdition_init__ f fd) (b : XBs K mg "KeyError" "KeyError.__init__") : FnG P w K mg base 1 f fd ["self", "name", "edition"] (SpXI K "KeyError.__init__" ["name", "edition"]) := by
  have nd := sc_NoEdition_init__.nd
  exact (ok_xinit2 (P := P) (w := w) (mg := mg) (base := base) (k := 0) F sc_NoEdition_init__ rfl (fun cdv A outer s H E => pss_cons (ps_expr (pe_xi b (by rfl) (pa_cons (pv 0) (pa_cons pe_str pa_nil)))) (pss_cons (ps_xst (pv 0) (pv 1)) (pss_one (ps_xst (pv 0) (pv 2))))) :)
abbrev t_NothingToUndo_init__ : Stmt := inClass (top 27) 0
abbrev N_NothingToUndo_init__ : List Str := ["self"]
theorem sc_NothingToUndo_init__ : FnScope N_NothingToUndo_init__ ["self"] (defScope t_NothingToUndo_init__) := ⟨rfl, rfl, rfl, by decide +kernel, rfl, by decide +kernel, by decide +kernel⟩
theorem d_NothingToUndo_init__ {P : Program} {w : World} {K : PySem.W.Frag} {mg : Str → Option Value} {base : Heap} {f : Addr} {fd : FuncData} (F : Fun K "__init__" "NothingToUndo.__init__" t_NothingToUndo_init__ f fd) (b : XBs K mg "LookupError" "LookupError.__init__") : FnG P w K mg base 1 f fd ["self"] (SpXI K "LookupError.__init__" []) := by
  have nd := sc_NothingToUndo_init__.nd
  exact (ok_xinit0 (P := P) (w := w) (mg := mg) (base := base) (k := 0) F sc_NothingToUndo_init__ rfl (fun cdv A outer s H E => pss_one (ps_expr (pe_xi b (by rfl) (pa_cons (pv 0) (pa_cons pe_str pa_nil))))) :)
abbrev t_TooMany_init__ : Stmt := inClass (top 28) 0
abbrev N_TooMany_init__ : List Str := ["self", "limit"]
theorem sc_TooMany_init__ : FnScope N_TooMany_init__ ["self", "limit"] (defScope t_TooMany_init__) := ⟨rfl, rfl, rfl, by decide +kernel, rfl, by decide +kernel, by decide +kernel⟩
theorem d_TooMany_init__ {P : Program} {w : World} {K : PySem.W.Frag} {mg : Str → Option Value} {base : Heap} {f : Addr} {fd : FuncData} (F : Fun K "__init__" "TooMany.__init__" t_TooMany_init__ f fd) (b : XBs K mg "OverflowError" "OverflowError.__init__") : FnG P w K mg base 1 f fd ["self", "limit"] (SpXI K "OverflowError.__init__" ["limit"]) := by
  have nd := sc_TooMany_init__.nd
  exact (ok_xinit1 (P := P) (w := w) (mg := mg) (base := base) (k := 0) F sc_TooMany_init__ rfl (fun cdv A outer s H E => pss_cons (ps_expr (pe_xi b (by rfl) (pa_cons (pv 0) (pa_cons pe_str pa_nil)))) (pss_one (ps_xst (pv 0) (pv 1)))) :)
abbrev t_law_pen : Stmt := top 30
abbrev N_law_pen : List Str := ["_law_script"]
theorem sc_law_pen : FnScope N_law_pen ["_law_script"] (defScope t_law_pen) := ⟨rfl, rfl, rfl, by decide +kernel, rfl, by decide +kernel, by decide +kernel⟩
def b_law_pen : SF := fDict (pCons (sC (.str ("cells" : Str))) (sFz (sN dList (aCons (sSl (sVar 0) oNone (oSome (sC (.int 63)))) aNil))) (pCons (sC (.str ("at" : Str))) (sC (.int 0)) (pCons (sC (.str ("left" : Str))) (sC (.int 0)) pNil)))
def g_law_pen : List D → Out D := fnNew 1 b_law_pen
theorem d_law_pen {P : Program} {w : World} {K : PySem.W.Frag} {mg : Str → Option Value} {base : Heap} {cl : Cl} (T : Glo w K mg cl) (hB : SysB base)  {f : Addr} {fd : FuncData} (F : Fun K "_law_pen" "_law_pen" t_law_pen f fd) : FnG P w K mg base 1 f fd ["_law_script"] (toSpF ⟨K, cl⟩ 1 g_law_pen) :=
  have nd := sc_law_pen.nd
  (ok_fnF (P := P) (w := w) (mg := mg) (base := base) (cl := cl) (k := 0) (g := b_law_pen) F sc_law_pen rfl (fun cdv A outer s H E hr => fe_dict (dp_cons de_str (FE.fz (fe_callTy call_list_of cf_list (by rfl) T.list (by decide +kernel) (da_cons (de_slice (de_var 0) do_none (do_some de_int)) da_nil))) (dp_cons de_str de_int (dp_cons de_str de_int dp_nil)))) :)
abbrev t_law_draw : Stmt := top 31
abbrev N_law_draw : List Str := ["_law_pen_here", "_law_many", "_law_at", "_law_cell", "_law_mixed", "_law_digit", "_law_great"]
theorem sc_law_draw : FnScope N_law_draw ["_law_pen_here", "_law_many"] (defScope t_law_draw) := ⟨rfl, rfl, rfl, by decide +kernel, rfl, by decide +kernel, by decide +kernel⟩
def b_law_draw : SS := sSeq (sIfS (bOf (sOp dGt (sOp dGetI (sVar 0) (sC (.str ("left" : Str)))) (sC (.int 0)))) (sSeq (sSet 5 (sOp dMod (sFz (sN dInt (aCons (sOp dGetI (sVar 0) (sC (.str ("left" : Str)))) aNil))) (sVar 1)))
    (sSeq (sPutD (sVar 0) (sC (.str ("left" : Str))) (sOp dFdiv (sFz (sN dInt (aCons (sOp dGetI (sVar 0) (sC (.str ("left" : Str)))) aNil))) (sVar 1)))
    (sRet (sVar 5)))) sNx)
    (sSeq (sSet 2 (sOp dGetI (sVar 0) (sC (.str ("at" : Str)))))
    (sSeq (sPutD (sVar 0) (sC (.str ("at" : Str))) (sOp dAdd (sVar 2) (sC (.int 1))))
    (sSeq (sSet 3 (sOp dAdd (sOp dMul (sC (.int 7411)) (sVar 2)) (sC (.int 389))))
    (sSeq (sIfS (bOf (sOp dNe (sOp dGetI (sVar 0) (sC (.str ("cells" : Str)))) (sFz (fLst aNil)))) (sSet 3 (sOp dIx (sOp dGetI (sVar 0) (sC (.str ("cells" : Str)))) (sOp dMod (sFz (sN dInt (aCons (sVar 2) aNil))) (sFz (sN dLen (aCons (sOp dGetI (sVar 0) (sC (.str ("cells" : Str)))) aNil)))))) sNx)
    (sSeq (sIfS (bAnd (bOf (sOp dLt (sVar 2) (sFz (sN dLen (aCons (sOp dGetI (sVar 0) (sC (.str ("cells" : Str)))) aNil))))) (bOf (sOp dGe (sFz (sN dAbs (aCons (sVar 3) aNil))) (sOp dPow (sC (.int 10)) (sC (.int 18)))))) (sSeq (sSet 6 (sOp dAdd (sOp dMul (sC (.int 2)) (sFz (sN dAbs (aCons (sVar 3) aNil)))) (sFz (sN dInt (aCons (sOp dLt (sVar 3) (sC (.int 0))) aNil)))))
    (sSeq (sPutD (sVar 0) (sC (.str ("left" : Str))) (sOp dFdiv (sFz (sN dInt (aCons (sVar 6) aNil))) (sVar 1)))
    (sRet (sOp dMod (sFz (sN dInt (aCons (sVar 6) aNil))) (sVar 1))))) sNx)
    (sSeq (sSet 4 (sOp dMod (sFz (sN dInt (aCons (sOp dPow (sOp dAdd (sOp dAdd (sOp dMod (sFz (sN dInt (aCons (sVar 3) aNil))) (sC (.int 2147483563))) (sOp dMul (sC (.int 52361)) (sVar 2))) (sC (.int 41))) (sC (.int 3))) aNil))) (sC (.int 2147483647))))
    (sSeq (sSet 4 (sOp dMod (sFz (sN dInt (aCons (sOp dPow (sOp dAdd (sOp dAdd (sOp dMul (sVar 4) (sOp dAdd (sOp dMul (sC (.int 2)) (sVar 2)) (sC (.int 9)))) (sOp dMul (sOp dMul (sC (.int 70001)) (sVar 2)) (sVar 2))) (sC (.int 17))) (sC (.int 3))) aNil))) (sC (.int 2147483587))))
    (sRet (sOp dMod (sFz (sN dInt (aCons (sOp dFdiv (sVar 4) (sC (.int 32))) aNil))) (sVar 1))))))))))
def g_law_draw : Fn := fnOf 7 b_law_draw
theorem d_law_draw {P : Program} {w : World} {K : PySem.W.Frag} {mg : Str → Option Value} {base : Heap} {cl : Cl} (T : Glo w K mg cl) (hB : SysB base)  {f : Addr} {fd : FuncData} (F : Fun K "_law_draw" "_law_draw" t_law_draw f fd) : FnG P w K mg base 1 f fd ["_law_pen_here", "_law_many"] (toSp ⟨K, cl⟩ 2 g_law_draw) := by
  have nd := sc_law_draw.nd
  exact (ok_fn (P := P) (w := w) (mg := mg) (base := base) (cl := cl) (k := 0) (body := b_law_draw) F sc_law_draw (fun cdv A outer s H E hr => dss_cons (ds_if (dt_cmp op_gt od_cmpI (de_dget (hu_of hr.room) (de_var 0) de_str) de_int) (dss_cons (ds_set (i := 5) nd rfl (by first | exact Or.inl rfl | exact Or.inr rfl) (de_mod (de_callTy call_int1 ca_int (by rfl) T.int (by decide +kernel) (da_cons (de_dget (hu_of hr.room) (de_var 0) de_str) da_nil)) (de_var 1)))
    (dss_cons (ds_dput (hu_of hr.room) (de_var 0) de_str (de_fdiv (de_callTy call_int1 ca_int (by rfl) T.int (by decide +kernel) (da_cons (de_dget (hu_of hr.room) (de_var 0) de_str) da_nil)) (de_var 1)))
    (dss_one (ds_ret (de_var 5))))) dss_nil)
    (dss_cons (ds_set (i := 2) nd rfl (by first | exact Or.inl rfl | exact Or.inr rfl) (de_dget (hu_of hr.room) (de_var 0) de_str))
    (dss_cons (ds_dput (hu_of hr.room) (de_var 0) de_str (de_add (de_var 2) de_int))
    (dss_cons (ds_set (i := 3) nd rfl (by first | exact Or.inl rfl | exact Or.inr rfl) (de_add (de_mul de_int (de_var 2)) de_int))
    (dss_cons (ds_if (dt_cmp (op_neD (hu65 hr)) od_ne (de_dget (hu_of hr.room) (de_var 0) de_str) (FE.fz (fe_lst da_nil))) (dss_one (ds_set (i := 3) nd rfl (by first | exact Or.inl rfl | exact Or.inr rfl) (de_ix (de_dget (hu_of hr.room) (de_var 0) de_str) (de_mod (de_callTy call_int1 ca_int (by rfl) T.int (by decide +kernel) (da_cons (de_var 2) da_nil)) (de_callB call_len ca_len (by rfl) T.len (by decide +kernel) (da_cons (de_dget (hu_of hr.room) (de_var 0) de_str) da_nil)))))) dss_nil)
    (dss_cons (ds_if (DW.dt (dw_and (dt_cmp op_lt od_cmpI (de_var 2) (de_callB call_len ca_len (by rfl) T.len (by decide +kernel) (da_cons (de_dget (hu_of hr.room) (de_var 0) de_str) da_nil))) (dw_and1 (dt_cmp op_ge od_cmpI (de_callB call_abs ca_abs (by rfl) T.abs (by decide +kernel) (da_cons (de_var 3) da_nil)) (de_pow de_int de_int))))) (dss_cons (ds_set (i := 6) nd rfl (by first | exact Or.inl rfl | exact Or.inr rfl) (de_add (de_mul de_int (de_callB call_abs ca_abs (by rfl) T.abs (by decide +kernel) (da_cons (de_var 3) da_nil))) (de_callTy call_int1 ca_int (by rfl) T.int (by decide +kernel) (da_cons (de_cmp op_lt od_cmpI (de_var 3) de_int) da_nil))))
    (dss_cons (ds_dput (hu_of hr.room) (de_var 0) de_str (de_fdiv (de_callTy call_int1 ca_int (by rfl) T.int (by decide +kernel) (da_cons (de_var 6) da_nil)) (de_var 1)))
    (dss_one (ds_ret (de_mod (de_callTy call_int1 ca_int (by rfl) T.int (by decide +kernel) (da_cons (de_var 6) da_nil)) (de_var 1)))))) dss_nil)
    (dss_cons (ds_set (i := 4) nd rfl (by first | exact Or.inl rfl | exact Or.inr rfl) (de_mod (de_callTy call_int1 ca_int (by rfl) T.int (by decide +kernel) (da_cons (de_pow (de_add (de_add (de_mod (de_callTy call_int1 ca_int (by rfl) T.int (by decide +kernel) (da_cons (de_var 3) da_nil)) de_int) (de_mul de_int (de_var 2))) de_int) de_int) da_nil)) de_int))
    (dss_cons (ds_set (i := 4) nd rfl (by first | exact Or.inl rfl | exact Or.inr rfl) (de_mod (de_callTy call_int1 ca_int (by rfl) T.int (by decide +kernel) (da_cons (de_pow (de_add (de_add (de_mul (de_var 4) (de_add (de_mul de_int (de_var 2)) de_int)) (de_mul (de_mul de_int (de_var 2)) (de_var 2))) de_int) de_int) da_nil)) de_int))
    (dss_one (ds_ret (de_mod (de_callTy call_int1 ca_int (by rfl) T.int (by decide +kernel) (da_cons (de_fdiv (de_var 4) de_int) da_nil)) (de_var 1)))))))))))) :)
abbrev t_law_is_name : Stmt := top 32
abbrev N_law_is_name : List Str := ["_law_entry", "_law_sign"]
theorem sc_law_is_name : FnScope N_law_is_name ["_law_entry"] (defScope t_law_is_name) := ⟨rfl, rfl, rfl, by decide +kernel, rfl, by decide +kernel, by decide +kernel⟩
def b_law_is_name : SS := sSeq (sIfS (bOr (bNot (bTru (sIsi "str" (sVar 0)))) (bOr (bOf (sOp dLt (sFz (sN dLen (aCons (sVar 0) aNil))) (sC (.int 1)))) (bOr (bOf (sOp dGt (sFz (sN dLen (aCons (sVar 0) aNil))) (sC (.int 8)))) (bOr (bOf (sOp dEq (sVar 0) (sC (.str ("self" : Str))))) (bOf (sOp dEq (sVar 0) (sC (.str ("head" : Str))))))))) (sRet (sC (.bl false))) sNx)
    (sRet (sOp dEq (sFz (fLc [1] (iOf (sVar 0)) (gN 1) (bOf (sOp dNotIn (sVar 1) (sC (.str ("abcdefghijklmnopqrstuvwxyz" : Str))))) (sVar 1))) (sFz (fLst aNil))))
def g_law_is_name : Fn := fnOf 2 b_law_is_name
theorem d_law_is_name {P : Program} {w : World} {K : PySem.W.Frag} {mg : Str → Option Value} {base : Heap} {cl : Cl} (T : Glo w K mg cl) (hB : SysB base)  {f : Addr} {fd : FuncData} (F : Fun K "_law_is_name" "_law_is_name" t_law_is_name f fd) : FnG P w K mg base 1 f fd ["_law_entry"] (toSp ⟨K, cl⟩ 1 g_law_is_name) := by
  have nd := sc_law_is_name.nd
  exact (ok_fn (P := P) (w := w) (mg := mg) (base := base) (cl := cl) (k := 0) (body := b_law_is_name) F sc_law_is_name (fun cdv A outer s H E hr => dss_cons (ds_if (DW.dt (dw_or (dt_not (dt_tru (de_isi (de_var 0) (by rfl) T.isinstance (by decide +kernel) (by rfl) T.str (by decide +kernel)))) (dw_or (dt_cmp op_lt od_cmpI (de_callB call_len ca_len (by rfl) T.len (by decide +kernel) (da_cons (de_var 0) da_nil)) de_int) (dw_or (dt_cmp op_gt od_cmpI (de_callB call_len ca_len (by rfl) T.len (by decide +kernel) (da_cons (de_var 0) da_nil)) de_int) (dw_or (dt_cmp (op_eqD (hu65 hr)) od_eq (de_var 0) de_str) (dw_or1 (dt_cmp (op_eqD (hu65 hr)) od_eq (de_var 0) de_str))))))) (dss_one (ds_ret de_bl)) dss_nil)
    (dss_one (ds_ret (de_cmp (op_eqD (hu65 hr)) od_eq (FE.fz (fe_lc (own := [("_law_sign", 1)]) rfl nd (di_any (de_var 0)) (blkOk_by (N := N_law_is_name) (sc := defScope t_law_is_name) (by decide +kernel)) (fun _ _ _ _ _ => dg_name (i := 1) nd rfl (by first | exact Or.inl rfl | exact Or.inr rfl)) (fun _ _ _ _ _ => dts_one (dt_cmp (op_notInAll (hu65 hr)) od_notIn (de_var 1) de_str)) (fun _ _ _ _ _ => de_var 1))) (FE.fz (fe_lst da_nil)))))) :)
abbrev t_law_is_word : Stmt := top 33
abbrev N_law_is_word : List Str := ["_law_entry", "_law_at"]
theorem sc_law_is_word : FnScope N_law_is_word ["_law_entry"] (defScope t_law_is_word) := ⟨rfl, rfl, rfl, by decide +kernel, rfl, by decide +kernel, by decide +kernel⟩
def b_law_is_word : SS := sSeq (sIfS (bOr (bNot (bTru (sIsi "str" (sVar 0)))) (bOf (sOp dNe (sFz (sMt "str" dCount (sVar 0) (aCons (sC (.str ("." : Str))) aNil))) (sC (.int 1))))) (sRet (sC (.bl false))) sNx)
    (sSeq (sSet 1 (sFz (sMt "str" dIndexS (sVar 0) (aCons (sC (.str ("." : Str))) aNil))))
    (sRet (sAnd (sCall [false] g_law_is_name (aCons (sSl (sVar 0) oNone (oSome (sVar 1))) aNil)) (sCall [false] g_law_is_name (aCons (sSl (sVar 0) (oSome (sOp dAdd (sVar 1) (sC (.int 1)))) oNone) aNil)))))
def g_law_is_word : Fn := fnOf 2 b_law_is_word
theorem d_law_is_word {P : Program} {w : World} {K : PySem.W.Frag} {mg : Str → Option Value} {base : Heap} {cl : Cl} (T : Glo w K mg cl) (hB : SysB base) (C_law_is_name : Cal P w K mg base cl "_law_is_name" t_law_is_name 1 ["_law_entry"] g_law_is_name) {f : Addr} {fd : FuncData} (F : Fun K "_law_is_word" "_law_is_word" t_law_is_word f fd) : FnG P w K mg base 2 f fd ["_law_entry"] (toSp ⟨K, cl⟩ 1 g_law_is_word) := by
  have nd := sc_law_is_word.nd
  exact (ok_fn (P := P) (w := w) (mg := mg) (base := base) (cl := cl) (k := 1) (body := b_law_is_word) F sc_law_is_word (fun cdv A outer s H E hr => dss_cons (ds_if (DW.dt (dw_or (dt_not (dt_tru (de_isi (de_var 0) (by rfl) T.isinstance (by decide +kernel) (by rfl) T.str (by decide +kernel)))) (dw_or1 (dt_cmp (op_neD (hu65 hr)) od_ne (de_bm PySem.F.plainAttrs_str PySem.F.slot_str_count PySem.F.type_str_count mt_count md_count (de_var 0) (da_cons de_str da_nil)) de_int)))) (dss_one (ds_ret de_bl)) dss_nil)
    (dss_cons (ds_set (i := 1) nd rfl (by first | exact Or.inl rfl | exact Or.inr rfl) (de_bm PySem.F.plainAttrs_str PySem.F.slot_str_index PySem.F.type_str_index mt_sindex md_indexS (de_var 0) (da_cons de_str da_nil)))
    (dss_one (ds_ret (de_and (c_call C_law_is_name (hr.mono (by decide)) (by rfl) [false] rfl (da_cons (de_slice (de_var 0) do_none (do_some (de_var 1))) da_nil)) (de_one (c_call C_law_is_name (hr.mono (by decide)) (by rfl) [false] rfl (da_cons (de_slice (de_var 0) (do_some (de_add (de_var 1) de_int)) do_none) da_nil)))))))) :)
abbrev t_law_is_variable : Stmt := top 34
abbrev N_law_is_variable : List Str := ["_law_entry", "_law_sign"]
theorem sc_law_is_variable : FnScope N_law_is_variable ["_law_entry"] (defScope t_law_is_variable) := ⟨rfl, rfl, rfl, by decide +kernel, rfl, by decide +kernel, by decide +kernel⟩
def b_law_is_variable : SS := sSeq (sIfS (bOr (bNot (bTru (sIsi "str" (sVar 0)))) (bOr (bOf (sOp dLt (sFz (sN dLen (aCons (sVar 0) aNil))) (sC (.int 1)))) (bOf (sOp dGt (sFz (sN dLen (aCons (sVar 0) aNil))) (sC (.int 4)))))) (sRet (sC (.bl false))) sNx)
    (sSeq (sIfS (bOf (sOp dNotIn (sOp dIx (sVar 0) (sC (.int 0))) (sC (.str ("ABCDEFGHIJKLMNOPQRSTUVWXYZ" : Str))))) (sRet (sC (.bl false))) sNx)
    (sRet (sOp dEq (sFz (fLc [1] (iOf (sSl (sVar 0) (oSome (sC (.int 1))) oNone)) (gN 1) (bOf (sOp dNotIn (sVar 1) (sC (.str ("0123456789" : Str))))) (sVar 1))) (sFz (fLst aNil)))))
def g_law_is_variable : Fn := fnOf 2 b_law_is_variable
theorem d_law_is_variable {P : Program} {w : World} {K : PySem.W.Frag} {mg : Str → Option Value} {base : Heap} {cl : Cl} (T : Glo w K mg cl) (hB : SysB base)  {f : Addr} {fd : FuncData} (F : Fun K "_law_is_variable" "_law_is_variable" t_law_is_variable f fd) : FnG P w K mg base 1 f fd ["_law_entry"] (toSp ⟨K, cl⟩ 1 g_law_is_variable) := by
  have nd := sc_law_is_variable.nd
  exact (ok_fn (P := P) (w := w) (mg := mg) (base := base) (cl := cl) (k := 0) (body := b_law_is_variable) F sc_law_is_variable (fun cdv A outer s H E hr => dss_cons (ds_if (DW.dt (dw_or (dt_not (dt_tru (de_isi (de_var 0) (by rfl) T.isinstance (by decide +kernel) (by rfl) T.str (by decide +kernel)))) (dw_or (dt_cmp op_lt od_cmpI (de_callB call_len ca_len (by rfl) T.len (by decide +kernel) (da_cons (de_var 0) da_nil)) de_int) (dw_or1 (dt_cmp op_gt od_cmpI (de_callB call_len ca_len (by rfl) T.len (by decide +kernel) (da_cons (de_var 0) da_nil)) de_int))))) (dss_one (ds_ret de_bl)) dss_nil)
    (dss_cons (ds_if (dt_cmp (op_notInAll (hu65 hr)) od_notIn (de_ix (de_var 0) de_int) de_str) (dss_one (ds_ret de_bl)) dss_nil)
    (dss_one (ds_ret (de_cmp (op_eqD (hu65 hr)) od_eq (FE.fz (fe_lc (own := [("_law_sign", 1)]) rfl nd (di_any (de_slice (de_var 0) (do_some de_int) do_none)) (blkOk_by (N := N_law_is_variable) (sc := defScope t_law_is_variable) (by decide +kernel)) (fun _ _ _ _ _ => dg_name (i := 1) nd rfl (by first | exact Or.inl rfl | exact Or.inr rfl)) (fun _ _ _ _ _ => dts_one (dt_cmp (op_notInAll (hu65 hr)) od_notIn (de_var 1) de_str)) (fun _ _ _ _ _ => de_var 1))) (FE.fz (fe_lst da_nil))))))) :)
abbrev t_law_letters : Stmt := top 35
abbrev N_law_letters : List Str := ["_law_pen_here", "_law_signs", "_law_least", "_law_most", "_law_bulk", "_law_k"]
theorem sc_law_letters : FnScope N_law_letters ["_law_pen_here", "_law_signs", "_law_least", "_law_most"] (defScope t_law_letters) := ⟨rfl, rfl, rfl, by decide +kernel, rfl, by decide +kernel, by decide +kernel⟩
def b_law_letters : SS := sSeq (sSet 4 (sOp dIx (sFz (fLst (aCons (sVar 2) (aCons (sVar 3) (aCons (sOp dAdd (sVar 2) (sCall [true, false] g_law_draw (aCons (sVar 0) (aCons (sOp dSub (sOp dAdd (sVar 3) (sC (.int 1))) (sVar 2)) aNil)))) aNil))))) (sCall [true, false] g_law_draw (aCons (sVar 0) (aCons (sC (.int 3)) aNil)))))
    (sRet (sFz (sMt "str" dJoin (sC (.str ("" : Str))) (aCons (sFz (fLc [5] (iRange1 (aCons (sVar 4) aNil)) (gN 5) bYes (sOp dIx (sVar 1) (sCall [true, false] g_law_draw (aCons (sVar 0) (aCons (sFz (sN dLen (aCons (sVar 1) aNil))) aNil)))))) aNil))))
def g_law_letters : Fn := fnOf 6 b_law_letters
theorem d_law_letters {P : Program} {w : World} {K : PySem.W.Frag} {mg : Str → Option Value} {base : Heap} {cl : Cl} (T : Glo w K mg cl) (hB : SysB base) (C_law_draw : Cal P w K mg base cl "_law_draw" t_law_draw 1 ["_law_pen_here", "_law_many"] g_law_draw) {f : Addr} {fd : FuncData} (F : Fun K "_law_letters" "_law_letters" t_law_letters f fd) : FnG P w K mg base 2 f fd ["_law_pen_here", "_law_signs", "_law_least", "_law_most"] (toSp ⟨K, cl⟩ 4 g_law_letters) := by
  have nd := sc_law_letters.nd
  exact (ok_fn (P := P) (w := w) (mg := mg) (base := base) (cl := cl) (k := 1) (body := b_law_letters) F sc_law_letters (fun cdv A outer s H E hr => dss_cons (ds_set (i := 4) nd rfl (by first | exact Or.inl rfl | exact Or.inr rfl) (de_ix (FE.fz (fe_lst (da_cons (de_var 2) (da_cons (de_var 3) (da_cons (de_add (de_var 2) (c_call C_law_draw (hr.mono (by decide)) (by rfl) [true, false] rfl (da_cons (de_var 0) (da_cons (de_sub (de_add (de_var 3) de_int) (de_var 2)) da_nil)))) da_nil))))) (c_call C_law_draw (hr.mono (by decide)) (by rfl) [true, false] rfl (da_cons (de_var 0) (da_cons de_int da_nil)))))
    (dss_one (ds_ret (de_bm PySem.F.plainAttrs_str PySem.F.slot_str_join PySem.F.type_str_join mt_join md_join de_str (da_cons (FE.fz (fe_lc (own := [("_law_k", 5)]) rfl nd (di_range1 (by rfl) T.range (da_cons (de_var 4) da_nil)) (blkOk_by (N := N_law_letters) (sc := defScope t_law_letters) (by decide +kernel)) (fun _ _ _ _ _ => dg_name (i := 5) nd rfl (by first | exact Or.inl rfl | exact Or.inr rfl)) (fun _ _ _ _ _ => dts_nil) (fun _ _ _ _ _ => de_ix (de_var 1) (c_call C_law_draw (hr.mono (by decide)) (by rfl) [true, false] rfl (da_cons (de_var 0) (da_cons (de_callB call_len ca_len (by rfl) T.len (by decide +kernel) (da_cons (de_var 1) da_nil)) da_nil)))))) da_nil))))) :)
abbrev t_law_text : Stmt := top 36
abbrev N_law_text : List Str := ["_law_pen_here", "_law_small", "_law_way", "_law_one", "_law_far"]
theorem sc_law_text : FnScope N_law_text ["_law_pen_here"] (defScope t_law_text) := ⟨rfl, rfl, rfl, by decide +kernel, rfl, by decide +kernel, by decide +kernel⟩
def b_law_text : SS := sSeq (sSet 1 (sC (.str ("abcdefghijklmnopqrstuvwxyz" : Str))))
    (sSeq (sSet 2 (sCall [true, false] g_law_draw (aCons (sVar 0) (aCons (sC (.int 6)) aNil))))
    (sSeq (sSet 3 (sOp dIx (sFz (fLst (aCons (sCall [true, false, false, false] g_law_letters (aCons (sVar 0) (aCons (sVar 1) (aCons (sC (.int 1)) (aCons (sC (.int 8)) aNil))))) (aCons (sCall [true, false, false, false] g_law_letters (aCons (sVar 0) (aCons (sVar 1) (aCons (sC (.int 0)) (aCons (sC (.int 9)) aNil))))) aNil)))) (sFz (sN dInt (aCons (sOp dGt (sVar 2) (sC (.int 3))) aNil)))))
    (sSeq (sSet 4 (sOp dIx (sFz (fLst (aCons (sCall [true, false, false, false] g_law_letters (aCons (sVar 0) (aCons (sVar 1) (aCons (sC (.int 1)) (aCons (sC (.int 8)) aNil))))) (aCons (sC (.str ("self" : Str))) (aCons (sC (.str ("head" : Str))) (aCons (sC (.str ("selfs" : Str))) (aCons (sC (.str ("hea" : Str))) aNil))))))) (sCall [true, false] g_law_draw (aCons (sVar 0) (aCons (sC (.int 5)) aNil)))))
    (sSeq (sIfS (bOf (sOp dEq (sVar 2) (sC (.int 0)))) (sRet (sVar 3)) sNx)
    (sSeq (sIfS (bOf (sOp dIn (sVar 2) (sTup (aCons (sC (.int 1)) (aCons (sC (.int 4)) aNil))))) (sRet (sOp dAdd (sOp dAdd (sVar 3) (sC (.str ("." : Str)))) (sVar 4))) sNx)
    (sSeq (sIfS (bOf (sOp dEq (sVar 2) (sC (.int 2)))) (sRet (sOp dAdd (sCall [true, false, false, false] g_law_letters (aCons (sVar 0) (aCons (sUpper (sVar 1)) (aCons (sC (.int 1)) (aCons (sC (.int 1)) aNil))))) (sCall [true, false, false, false] g_law_letters (aCons (sVar 0) (aCons (sC (.str ("0123456789" : Str))) (aCons (sC (.int 0)) (aCons (sC (.int 3)) aNil))))))) sNx)
    (sSeq (sIfS (bOf (sOp dEq (sVar 2) (sC (.int 3)))) (sRet (sVar 4)) sNx)
    (sRet (sOp dAdd (sCall [true, false, false, false] g_law_letters (aCons (sVar 0) (aCons (sUpper (sVar 1)) (aCons (sC (.int 0)) (aCons (sC (.int 2)) aNil))))) (sCall [true, false, false, false] g_law_letters (aCons (sVar 0) (aCons (sC (.str ("0123456789" : Str))) (aCons (sC (.int 0)) (aCons (sC (.int 4)) aNil))))))))))))))
def g_law_text : Fn := fnOf 5 b_law_text
theorem d_law_text {P : Program} {w : World} {K : PySem.W.Frag} {mg : Str → Option Value} {base : Heap} {cl : Cl} (T : Glo w K mg cl) (hB : SysB base) (C_law_draw : Cal P w K mg base cl "_law_draw" t_law_draw 1 ["_law_pen_here", "_law_many"] g_law_draw) (C_law_letters : Cal P w K mg base cl "_law_letters" t_law_letters 2 ["_law_pen_here", "_law_signs", "_law_least", "_law_most"] g_law_letters) {f : Addr} {fd : FuncData} (F : Fun K "_law_text" "_law_text" t_law_text f fd) : FnG P w K mg base 3 f fd ["_law_pen_here"] (toSp ⟨K, cl⟩ 1 g_law_text) := by
  have nd := sc_law_text.nd
  exact (ok_fn (P := P) (w := w) (mg := mg) (base := base) (cl := cl) (k := 2) (body := b_law_text) F sc_law_text (fun cdv A outer s H E hr => dss_cons (ds_set (i := 1) nd rfl (by first | exact Or.inl rfl | exact Or.inr rfl) de_str)
    (dss_cons (ds_set (i := 2) nd rfl (by first | exact Or.inl rfl | exact Or.inr rfl) (c_call C_law_draw (hr.mono (by decide)) (by rfl) [true, false] rfl (da_cons (de_var 0) (da_cons de_int da_nil))))
    (dss_cons (ds_set (i := 3) nd rfl (by first | exact Or.inl rfl | exact Or.inr rfl) (de_ix (FE.fz (fe_lst (da_cons (c_call C_law_letters (hr.mono (by decide)) (by rfl) [true, false, false, false] rfl (da_cons (de_var 0) (da_cons (de_var 1) (da_cons de_int (da_cons de_int da_nil))))) (da_cons (c_call C_law_letters (hr.mono (by decide)) (by rfl) [true, false, false, false] rfl (da_cons (de_var 0) (da_cons (de_var 1) (da_cons de_int (da_cons de_int da_nil))))) da_nil)))) (de_callTy call_int1 ca_int (by rfl) T.int (by decide +kernel) (da_cons (de_cmp op_gt od_cmpI (de_var 2) de_int) da_nil))))
    (dss_cons (ds_set (i := 4) nd rfl (by first | exact Or.inl rfl | exact Or.inr rfl) (de_ix (FE.fz (fe_lst (da_cons (c_call C_law_letters (hr.mono (by decide)) (by rfl) [true, false, false, false] rfl (da_cons (de_var 0) (da_cons (de_var 1) (da_cons de_int (da_cons de_int da_nil))))) (da_cons de_str (da_cons de_str (da_cons de_str (da_cons de_str da_nil))))))) (c_call C_law_draw (hr.mono (by decide)) (by rfl) [true, false] rfl (da_cons (de_var 0) (da_cons de_int da_nil)))))
    (dss_cons (ds_if (dt_cmp (op_eqD (hu65 hr)) od_eq (de_var 2) de_int) (dss_one (ds_ret (de_var 3))) dss_nil)
    (dss_cons (ds_if (dt_cmp (op_inAll (hu65 hr)) od_in (de_var 2) (de_tup (da_cons de_int (da_cons de_int da_nil)))) (dss_one (ds_ret (de_add (de_add (de_var 3) de_str) (de_var 4)))) dss_nil)
    (dss_cons (ds_if (dt_cmp (op_eqD (hu65 hr)) od_eq (de_var 2) de_int) (dss_one (ds_ret (de_add (c_call C_law_letters (hr.mono (by decide)) (by rfl) [true, false, false, false] rfl (da_cons (de_var 0) (da_cons (de_upper (de_var 1)) (da_cons de_int (da_cons de_int da_nil))))) (c_call C_law_letters (hr.mono (by decide)) (by rfl) [true, false, false, false] rfl (da_cons (de_var 0) (da_cons de_str (da_cons de_int (da_cons de_int da_nil)))))))) dss_nil)
    (dss_cons (ds_if (dt_cmp (op_eqD (hu65 hr)) od_eq (de_var 2) de_int) (dss_one (ds_ret (de_var 4))) dss_nil)
    (dss_one (ds_ret (de_add (c_call C_law_letters (hr.mono (by decide)) (by rfl) [true, false, false, false] rfl (da_cons (de_var 0) (da_cons (de_upper (de_var 1)) (da_cons de_int (da_cons de_int da_nil))))) (c_call C_law_letters (hr.mono (by decide)) (by rfl) [true, false, false, false] rfl (da_cons (de_var 0) (da_cons de_str (da_cons de_int (da_cons de_int da_nil)))))))))))))))) :)
abbrev t_law_bent : Stmt := top 37
abbrev N_law_bent : List Str := ["_law_pen_here", "_law_text_here", "_law_signs", "_law_sign", "_law_at", "_law_way"]
theorem sc_law_bent : FnScope N_law_bent ["_law_pen_here", "_law_text_here"] (defScope t_law_bent) := ⟨rfl, rfl, rfl, by decide +kernel, rfl, by decide +kernel, by decide +kernel⟩
def b_law_bent : SS := sSeq (sSet 2 (sC (.str ("abcxyzABCXYZ0123456789..  _-'\"()[]{},;:!?#&*+/<=>@|~^`\n" : Str))))
    (sSeq (sSet 3 (sOp dIx (sVar 2) (sCall [true, false] g_law_draw (aCons (sVar 0) (aCons (sFz (sN dLen (aCons (sVar 2) aNil))) aNil)))))
    (sSeq (sSet 4 (sCall [true, false] g_law_draw (aCons (sVar 0) (aCons (sOp dAdd (sFz (sN dLen (aCons (sVar 1) aNil))) (sC (.int 1))) aNil))))
    (sSeq (sSet 5 (sCall [true, false] g_law_draw (aCons (sVar 0) (aCons (sC (.int 4)) aNil))))
    (sRet (sOp dIx (sFz (fLst (aCons (sOp dAdd (sOp dAdd (sSl (sVar 1) oNone (oSome (sVar 4))) (sVar 3)) (sSl (sVar 1) (oSome (sVar 4)) oNone)) (aCons (sOp dAdd (sSl (sVar 1) oNone (oSome (sVar 4))) (sSl (sVar 1) (oSome (sOp dAdd (sVar 4) (sC (.int 1)))) oNone)) (aCons (sOp dAdd (sOp dAdd (sSl (sVar 1) oNone (oSome (sVar 4))) (sVar 3)) (sSl (sVar 1) (oSome (sOp dAdd (sVar 4) (sC (.int 1)))) oNone)) (aCons (sVar 1) aNil)))))) (sVar 5))))))
def g_law_bent : Fn := fnOf 6 b_law_bent
theorem d_law_bent {P : Program} {w : World} {K : PySem.W.Frag} {mg : Str → Option Value} {base : Heap} {cl : Cl} (T : Glo w K mg cl) (hB : SysB base) (C_law_draw : Cal P w K mg base cl "_law_draw" t_law_draw 1 ["_law_pen_here", "_law_many"] g_law_draw) {f : Addr} {fd : FuncData} (F : Fun K "_law_bent" "_law_bent" t_law_bent f fd) : FnG P w K mg base 2 f fd ["_law_pen_here", "_law_text_here"] (toSp ⟨K, cl⟩ 2 g_law_bent) := by
  have nd := sc_law_bent.nd
  exact (ok_fn (P := P) (w := w) (mg := mg) (base := base) (cl := cl) (k := 1) (body := b_law_bent) F sc_law_bent (fun cdv A outer s H E hr => dss_cons (ds_set (i := 2) nd rfl (by first | exact Or.inl rfl | exact Or.inr rfl) de_str)
    (dss_cons (ds_set (i := 3) nd rfl (by first | exact Or.inl rfl | exact Or.inr rfl) (de_ix (de_var 2) (c_call C_law_draw (hr.mono (by decide)) (by rfl) [true, false] rfl (da_cons (de_var 0) (da_cons (de_callB call_len ca_len (by rfl) T.len (by decide +kernel) (da_cons (de_var 2) da_nil)) da_nil)))))
    (dss_cons (ds_set (i := 4) nd rfl (by first | exact Or.inl rfl | exact Or.inr rfl) (c_call C_law_draw (hr.mono (by decide)) (by rfl) [true, false] rfl (da_cons (de_var 0) (da_cons (de_add (de_callB call_len ca_len (by rfl) T.len (by decide +kernel) (da_cons (de_var 1) da_nil)) de_int) da_nil))))
    (dss_cons (ds_set (i := 5) nd rfl (by first | exact Or.inl rfl | exact Or.inr rfl) (c_call C_law_draw (hr.mono (by decide)) (by rfl) [true, false] rfl (da_cons (de_var 0) (da_cons de_int da_nil))))
    (dss_one (ds_ret (de_ix (FE.fz (fe_lst (da_cons (de_add (de_add (de_slice (de_var 1) do_none (do_some (de_var 4))) (de_var 3)) (de_slice (de_var 1) (do_some (de_var 4)) do_none)) (da_cons (de_add (de_slice (de_var 1) do_none (do_some (de_var 4))) (de_slice (de_var 1) (do_some (de_add (de_var 4) de_int)) do_none)) (da_cons (de_add (de_add (de_slice (de_var 1) do_none (do_some (de_var 4))) (de_var 3)) (de_slice (de_var 1) (do_some (de_add (de_var 4) de_int)) do_none)) (da_cons (de_var 1) da_nil)))))) (de_var 5)))))))) :)
abbrev t_law_made : Stmt := top 38
abbrev N_law_made : List Str := ["_law_a", "_law_b", "_law_some"]
theorem sc_law_made : FnScope N_law_made ["_law_a", "_law_b"] (defScope t_law_made) := ⟨rfl, rfl, rfl, by decide +kernel, rfl, by decide +kernel, by decide +kernel⟩
def b_law_made : SS := sSeq (sSet 2 (sFz (fLst (aCons (sXmk 1 ["thing"] (aCons (sVar 0) aNil)) (aCons (sXmk 2 ["reason"] (aCons (sVar 0) aNil)) (aCons (sXmk 3 ["reason"] (aCons (sVar 0) aNil)) (aCons (sXmk 4 ["field", "index"] (aCons (sVar 0) (aCons (sVar 1) aNil))) (aCons (sXmk 5 ["reason", "name"] (aCons (sVar 0) (aCons (sVar 1) aNil))) (aCons (sXmk 6 ["complaints"] (aCons (sVar 0) aNil)) aNil)))))))))
    (sSeq (sSet 2 (sOp dAdd (sVar 2) (sFz (fLst (aCons (sXmk 7 ["field", "index"] (aCons (sVar 0) (aCons (sVar 1) aNil))) (aCons (sXmk 8 ["name", "other"] (aCons (sVar 0) (aCons (sVar 1) aNil))) (aCons (sXmk 9 ["index"] (aCons (sVar 0) aNil)) (aCons (sXmk 10 ["line"] (aCons (sVar 0) aNil)) (aCons (sXmk 11 ["word"] (aCons (sVar 0) aNil)) (aCons (sXmk 12 ["limit"] (aCons (sVar 0) aNil)) aNil))))))))))
    (sRet (sOp dAdd (sVar 2) (sFz (fLst (aCons (sXmk 13 ["word"] (aCons (sVar 0) aNil)) (aCons (sXmk 14 ["question"] (aCons (sVar 0) aNil)) (aCons (sXmk 15 ["name", "edition"] (aCons (sVar 0) (aCons (sVar 1) aNil))) (aCons (sXmk 16 [] aNil) (aCons (sXmk 17 ["limit"] (aCons (sVar 0) aNil)) aNil))))))))))
def g_law_made : Fn := fnOf 3 b_law_made
theorem d_law_made {P : Program} {w : World} {K : PySem.W.Frag} {mg : Str → Option Value} {base : Heap} {cl : Cl} (T : Glo w K mg cl) (hB : SysB base) (C_InvalidTerm_init__ : MkX P w K mg base (cl 1) "InvalidTerm.__init__" t_InvalidTerm_init__ 1 ["self", "thing"] ["thing"]) (C_InvalidRule_init__ : MkX P w K mg base (cl 2) "InvalidRule.__init__" t_InvalidRule_init__ 1 ["self", "reason"] ["reason"]) (C_InvalidFunction_init__ : MkX P w K mg base (cl 3) "InvalidFunction.__init__" t_InvalidFunction_init__ 1 ["self", "reason"] ["reason"]) (C_InvalidPackage_init__ : MkX P w K mg base (cl 4) "InvalidPackage.__init__" t_InvalidPackage_init__ 1 ["self", "field", "index"] ["field", "index"]) (C_NoHouse_init__ : MkX P w K mg base (cl 5) "NoHouse.__init__" t_NoHouse_init__ 1 ["self", "reason", "name"] ["reason", "name"]) (C_Refused_init__ : MkX P w K mg base (cl 6) "Refused.__init__" t_Refused_init__ 1 ["self", "complaints"] ["complaints"]) (C_NotNext_init__ : MkX P w K mg base (cl 7) "NotNext.__init__" t_NotNext_init__ 1 ["self", "field", "index"] ["field", "index"]) (C_Mismatch_init__ : MkX P w K mg base (cl 8) "Mismatch.__init__" t_Mismatch_init__ 1 ["self", "name", "other"] ["name", "other"]) (C_BadPaper_init__ : MkX P w K mg base (cl 9) "BadPaper.__init__" t_BadPaper_init__ 1 ["self", "index"] ["index"]) (C_InvalidText_init__ : MkX P w K mg base (cl 10) "InvalidText.__init__" t_InvalidText_init__ 1 ["self", "line"] ["line"]) (C_InvalidCommand_init__ : MkX P w K mg base (cl 11) "InvalidCommand.__init__" t_InvalidCommand_init__ 1 ["self", "word"] ["word"]) (C_InvalidLimit_init__ : MkX P w K mg base (cl 12) "InvalidLimit.__init__" t_InvalidLimit_init__ 1 ["self", "limit"] ["limit"]) (C_UnknownWord_init__ : MkX P w K mg base (cl 13) "UnknownWord.__init__" t_UnknownWord_init__ 1 ["self", "word"] ["word"]) (C_NoAnswer_init__ : MkX P w K mg base (cl 14) "NoAnswer.__init__" t_NoAnswer_init__ 1 ["self", "question"] ["question"]) (C_NoEdition_init__ : MkX P w K mg base (cl 15) "NoEdition.__init__" t_NoEdition_init__ 1 ["self", "name", "edition"] ["name", "edition"]) (C_NothingToUndo_init__ : MkX P w K mg base (cl 16) "NothingToUndo.__init__" t_NothingToUndo_init__ 1 ["self"] []) (C_TooMany_init__ : MkX P w K mg base (cl 17) "TooMany.__init__" t_TooMany_init__ 1 ["self", "limit"] ["limit"]) {f : Addr} {fd : FuncData} (F : Fun K "_law_made" "_law_made" t_law_made f fd) : FnG P w K mg base 3 f fd ["_law_a", "_law_b"] (toSp ⟨K, cl⟩ 2 g_law_made) := by
  have nd := sc_law_made.nd
  exact (ok_fn (P := P) (w := w) (mg := mg) (base := base) (cl := cl) (k := 2) (body := b_law_made) F sc_law_made (fun cdv A outer s H E hr => dss_cons (ds_set (i := 2) nd rfl (by first | exact Or.inl rfl | exact Or.inr rfl) (FE.fz (fe_lst (da_cons (de_xmk C_InvalidTerm_init__ (hr.mono (by decide)) (by rfl) T.nx_InvalidTerm (da_cons (de_var 0) da_nil)) (da_cons (de_xmk C_InvalidRule_init__ (hr.mono (by decide)) (by rfl) T.nx_InvalidRule (da_cons (de_var 0) da_nil)) (da_cons (de_xmk C_InvalidFunction_init__ (hr.mono (by decide)) (by rfl) T.nx_InvalidFunction (da_cons (de_var 0) da_nil)) (da_cons (de_xmk C_InvalidPackage_init__ (hr.mono (by decide)) (by rfl) T.nx_InvalidPackage (da_cons (de_var 0) (da_cons (de_var 1) da_nil))) (da_cons (de_xmk C_NoHouse_init__ (hr.mono (by decide)) (by rfl) T.nx_NoHouse (da_cons (de_var 0) (da_cons (de_var 1) da_nil))) (da_cons (de_xmk C_Refused_init__ (hr.mono (by decide)) (by rfl) T.nx_Refused (da_cons (de_var 0) da_nil)) da_nil)))))))))
    (dss_cons (ds_set (i := 2) nd rfl (by first | exact Or.inl rfl | exact Or.inr rfl) (de_add (de_var 2) (FE.fz (fe_lst (da_cons (de_xmk C_NotNext_init__ (hr.mono (by decide)) (by rfl) T.nx_NotNext (da_cons (de_var 0) (da_cons (de_var 1) da_nil))) (da_cons (de_xmk C_Mismatch_init__ (hr.mono (by decide)) (by rfl) T.nx_Mismatch (da_cons (de_var 0) (da_cons (de_var 1) da_nil))) (da_cons (de_xmk C_BadPaper_init__ (hr.mono (by decide)) (by rfl) T.nx_BadPaper (da_cons (de_var 0) da_nil)) (da_cons (de_xmk C_InvalidText_init__ (hr.mono (by decide)) (by rfl) T.nx_InvalidText (da_cons (de_var 0) da_nil)) (da_cons (de_xmk C_InvalidCommand_init__ (hr.mono (by decide)) (by rfl) T.nx_InvalidCommand (da_cons (de_var 0) da_nil)) (da_cons (de_xmk C_InvalidLimit_init__ (hr.mono (by decide)) (by rfl) T.nx_InvalidLimit (da_cons (de_var 0) da_nil)) da_nil))))))))))
    (dss_one (ds_ret (de_add (de_var 2) (FE.fz (fe_lst (da_cons (de_xmk C_UnknownWord_init__ (hr.mono (by decide)) (by rfl) T.nx_UnknownWord (da_cons (de_var 0) da_nil)) (da_cons (de_xmk C_NoAnswer_init__ (hr.mono (by decide)) (by rfl) T.nx_NoAnswer (da_cons (de_var 0) da_nil)) (da_cons (de_xmk C_NoEdition_init__ (hr.mono (by decide)) (by rfl) T.nx_NoEdition (da_cons (de_var 0) (da_cons (de_var 1) da_nil))) (da_cons (de_xmk0 C_NothingToUndo_init__ (hr.mono (by decide)) (by rfl) T.nx_NothingToUndo) (da_cons (de_xmk C_TooMany_init__ (hr.mono (by decide)) (by rfl) T.nx_TooMany (da_cons (de_var 0) da_nil)) da_nil)))))))))))) :)
abbrev t_law_marks : Stmt := top 39
abbrev N_law_marks : List Str := ["_law_error", "_law_marks_here"]
theorem sc_law_marks : FnScope N_law_marks ["_law_error"] (defScope t_law_marks) := ⟨rfl, rfl, rfl, by decide +kernel, rfl, by decide +kernel, by decide +kernel⟩
def b_law_marks : SS := sSeq (sSet 1 (sFz (fLst (aCons (sXis [(1, true), (2, false), (3, false), (4, false), (5, false), (6, false), (7, false), (8, false), (9, false), (10, false), (11, false), (12, false), (13, false), (14, false), (15, false), (16, false), (17, false)] (sVar 0)) (aCons (sXis [(1, false), (2, true), (3, false), (4, false), (5, false), (6, false), (7, false), (8, false), (9, false), (10, false), (11, false), (12, false), (13, false), (14, false), (15, false), (16, false), (17, false)] (sVar 0)) (aCons (sXis [(1, false), (2, false), (3, true), (4, false), (5, false), (6, false), (7, false), (8, false), (9, false), (10, false), (11, false), (12, false), (13, false), (14, false), (15, false), (16, false), (17, false)] (sVar 0)) aNil))))))
    (sSeq (sSet 1 (sOp dAdd (sVar 1) (sFz (fLst (aCons (sXis [(1, false), (2, false), (3, false), (4, true), (5, false), (6, false), (7, false), (8, false), (9, false), (10, false), (11, false), (12, false), (13, false), (14, false), (15, false), (16, false), (17, false)] (sVar 0)) (aCons (sXis [(1, false), (2, false), (3, false), (4, false), (5, true), (6, false), (7, false), (8, false), (9, false), (10, false), (11, false), (12, false), (13, false), (14, false), (15, false), (16, false), (17, false)] (sVar 0)) (aCons (sXis [(1, false), (2, false), (3, false), (4, false), (5, false), (6, true), (7, false), (8, false), (9, false), (10, false), (11, false), (12, false), (13, false), (14, false), (15, false), (16, false), (17, false)] (sVar 0)) aNil)))))))
    (sSeq (sSet 1 (sOp dAdd (sVar 1) (sFz (fLst (aCons (sXis [(1, false), (2, false), (3, false), (4, false), (5, false), (6, false), (7, true), (8, false), (9, false), (10, false), (11, false), (12, false), (13, false), (14, false), (15, false), (16, false), (17, false)] (sVar 0)) (aCons (sXis [(1, false), (2, false), (3, false), (4, false), (5, false), (6, false), (7, false), (8, true), (9, false), (10, false), (11, false), (12, false), (13, false), (14, false), (15, false), (16, false), (17, false)] (sVar 0)) (aCons (sXis [(1, false), (2, false), (3, false), (4, false), (5, false), (6, false), (7, false), (8, false), (9, true), (10, false), (11, false), (12, false), (13, false), (14, false), (15, false), (16, false), (17, false)] (sVar 0)) aNil)))))))
    (sSeq (sSet 1 (sOp dAdd (sVar 1) (sFz (fLst (aCons (sXis [(1, false), (2, false), (3, false), (4, false), (5, false), (6, false), (7, false), (8, false), (9, false), (10, true), (11, false), (12, false), (13, false), (14, false), (15, false), (16, false), (17, false)] (sVar 0)) (aCons (sXis [(1, false), (2, false), (3, false), (4, false), (5, false), (6, false), (7, false), (8, false), (9, false), (10, false), (11, true), (12, false), (13, false), (14, false), (15, false), (16, false), (17, false)] (sVar 0)) aNil))))))
    (sSeq (sSet 1 (sOp dAdd (sVar 1) (sFz (fLst (aCons (sXis [(1, false), (2, false), (3, false), (4, false), (5, false), (6, false), (7, false), (8, false), (9, false), (10, false), (11, false), (12, true), (13, false), (14, false), (15, false), (16, false), (17, false)] (sVar 0)) (aCons (sXis [(1, false), (2, false), (3, false), (4, false), (5, false), (6, false), (7, false), (8, false), (9, false), (10, false), (11, false), (12, false), (13, true), (14, false), (15, false), (16, false), (17, false)] (sVar 0)) (aCons (sXis [(1, false), (2, false), (3, false), (4, false), (5, false), (6, false), (7, false), (8, false), (9, false), (10, false), (11, false), (12, false), (13, false), (14, true), (15, false), (16, false), (17, false)] (sVar 0)) aNil)))))))
    (sSeq (sSet 1 (sOp dAdd (sVar 1) (sFz (fLst (aCons (sXis [(1, false), (2, false), (3, false), (4, false), (5, false), (6, false), (7, false), (8, false), (9, false), (10, false), (11, false), (12, false), (13, false), (14, false), (15, true), (16, false), (17, false)] (sVar 0)) (aCons (sXis [(1, false), (2, false), (3, false), (4, false), (5, false), (6, false), (7, false), (8, false), (9, false), (10, false), (11, false), (12, false), (13, false), (14, false), (15, false), (16, true), (17, false)] (sVar 0)) (aCons (sXis [(1, false), (2, false), (3, false), (4, false), (5, false), (6, false), (7, false), (8, false), (9, false), (10, false), (11, false), (12, false), (13, false), (14, false), (15, false), (16, false), (17, true)] (sVar 0)) aNil)))))))
    (sRet (sIf (bOf (sOp dEq (sFz (sMt "list" dCntB (sVar 1) (aCons (sC (.bl true)) aNil))) (sC (.int 1)))) (sFz (sMt "list" dIxB (sVar 1) (aCons (sC (.bl true)) aNil))) (sNeg (sC (.int 1))))))))))
def g_law_marks : Fn := fnOf 2 b_law_marks
theorem d_law_marks {P : Program} {w : World} {K : PySem.W.Frag} {mg : Str → Option Value} {base : Heap} {cl : Cl} (T : Glo w K mg cl) (hB : SysB base)  {f : Addr} {fd : FuncData} (F : Fun K "_law_marks" "_law_marks" t_law_marks f fd) : FnG P w K mg base 1 f fd ["_law_error"] (toSp ⟨K, cl⟩ 1 g_law_marks) := by
  have nd := sc_law_marks.nd
  exact (ok_fn (P := P) (w := w) (mg := mg) (base := base) (cl := cl) (k := 0) (body := b_law_marks) F sc_law_marks (fun cdv A outer s H E hr => dss_cons (ds_set (i := 1) nd rfl (by first | exact Or.inl rfl | exact Or.inr rfl) (FE.fz (fe_lst (da_cons (de_xis (de_var 0) (by rfl) T.isinstance (by decide +kernel) (by rfl) T.nx_InvalidTerm T.xi_InvalidTerm) (da_cons (de_xis (de_var 0) (by rfl) T.isinstance (by decide +kernel) (by rfl) T.nx_InvalidRule T.xi_InvalidRule) (da_cons (de_xis (de_var 0) (by rfl) T.isinstance (by decide +kernel) (by rfl) T.nx_InvalidFunction T.xi_InvalidFunction) da_nil))))))
    (dss_cons (ds_set (i := 1) nd rfl (by first | exact Or.inl rfl | exact Or.inr rfl) (de_add (de_var 1) (FE.fz (fe_lst (da_cons (de_xis (de_var 0) (by rfl) T.isinstance (by decide +kernel) (by rfl) T.nx_InvalidPackage T.xi_InvalidPackage) (da_cons (de_xis (de_var 0) (by rfl) T.isinstance (by decide +kernel) (by rfl) T.nx_NoHouse T.xi_NoHouse) (da_cons (de_xis (de_var 0) (by rfl) T.isinstance (by decide +kernel) (by rfl) T.nx_Refused T.xi_Refused) da_nil)))))))
    (dss_cons (ds_set (i := 1) nd rfl (by first | exact Or.inl rfl | exact Or.inr rfl) (de_add (de_var 1) (FE.fz (fe_lst (da_cons (de_xis (de_var 0) (by rfl) T.isinstance (by decide +kernel) (by rfl) T.nx_NotNext T.xi_NotNext) (da_cons (de_xis (de_var 0) (by rfl) T.isinstance (by decide +kernel) (by rfl) T.nx_Mismatch T.xi_Mismatch) (da_cons (de_xis (de_var 0) (by rfl) T.isinstance (by decide +kernel) (by rfl) T.nx_BadPaper T.xi_BadPaper) da_nil)))))))
    (dss_cons (ds_set (i := 1) nd rfl (by first | exact Or.inl rfl | exact Or.inr rfl) (de_add (de_var 1) (FE.fz (fe_lst (da_cons (de_xis (de_var 0) (by rfl) T.isinstance (by decide +kernel) (by rfl) T.nx_InvalidText T.xi_InvalidText) (da_cons (de_xis (de_var 0) (by rfl) T.isinstance (by decide +kernel) (by rfl) T.nx_InvalidCommand T.xi_InvalidCommand) da_nil))))))
    (dss_cons (ds_set (i := 1) nd rfl (by first | exact Or.inl rfl | exact Or.inr rfl) (de_add (de_var 1) (FE.fz (fe_lst (da_cons (de_xis (de_var 0) (by rfl) T.isinstance (by decide +kernel) (by rfl) T.nx_InvalidLimit T.xi_InvalidLimit) (da_cons (de_xis (de_var 0) (by rfl) T.isinstance (by decide +kernel) (by rfl) T.nx_UnknownWord T.xi_UnknownWord) (da_cons (de_xis (de_var 0) (by rfl) T.isinstance (by decide +kernel) (by rfl) T.nx_NoAnswer T.xi_NoAnswer) da_nil)))))))
    (dss_cons (ds_set (i := 1) nd rfl (by first | exact Or.inl rfl | exact Or.inr rfl) (de_add (de_var 1) (FE.fz (fe_lst (da_cons (de_xis (de_var 0) (by rfl) T.isinstance (by decide +kernel) (by rfl) T.nx_NoEdition T.xi_NoEdition) (da_cons (de_xis (de_var 0) (by rfl) T.isinstance (by decide +kernel) (by rfl) T.nx_NothingToUndo T.xi_NothingToUndo) (da_cons (de_xis (de_var 0) (by rfl) T.isinstance (by decide +kernel) (by rfl) T.nx_TooMany T.xi_TooMany) da_nil)))))))
    (dss_one (ds_ret (de_if (dt_cmp (op_eqD (hu65 hr)) od_eq (de_bm PySem.F.plainAttrs_list PySem.F.slot_list_count PySem.F.type_list_count mt_cntF md_cntB (de_var 1) (da_cons de_bl da_nil)) de_int) (de_bm PySem.F.plainAttrs_list PySem.F.slot_list_index PySem.F.type_list_index mt_index md_ixB (de_var 1) (da_cons de_bl da_nil)) (de_neg de_int)))))))))) :)
abbrev t_law_classes_right : Stmt := top 40
abbrev N_law_classes_right : List Str := ["_law_a", "_law_b", "_law_some", "_law_error"]
theorem sc_law_classes_right : FnScope N_law_classes_right ["_law_a", "_law_b"] (defScope t_law_classes_right) := ⟨rfl, rfl, rfl, by decide +kernel, rfl, by decide +kernel, by decide +kernel⟩
def b_law_classes_right : SS := sSeq (sSet 2 (sCall [false, false] g_law_made (aCons (sVar 0) (aCons (sVar 1) aNil))))
    (sSeq (sIfS (bOf (sOp dNe (sFz (fLc [3] (iOf (sVar 2)) (gN 3) bYes (sCall [false] g_law_marks (aCons (sVar 3) aNil)))) (sFz (fListRg (sC (.int 17)))))) (sRet (sC (.bl false))) sNx)
    (sSeq (sIfS (bOf (sOp dNe (sFz (fLc [3] (iOf (sVar 2)) (gN 3) bYes (sXis [(1, true), (2, true), (3, true), (4, true), (5, true), (6, true), (7, true), (8, true), (9, true), (10, true), (11, true), (12, true), (13, false), (14, false), (15, false), (16, false), (17, false)] (sVar 3)))) (sOp dAdd (sFz (s2 dRepL (sFz (fLst (aCons (sC (.bl true)) aNil))) (sC (.int 12)))) (sFz (s2 dRepL (sFz (fLst (aCons (sC (.bl false)) aNil))) (sC (.int 5))))))) (sRet (sC (.bl false))) sNx)
    (sSeq (sIfS (bOf (sOp dNe (sFz (fLc [3] (iOf (sVar 2)) (gN 3) bYes (sXis [(1, true), (2, true), (3, true), (4, true), (5, true), (6, true), (7, true), (8, true), (9, true), (10, true), (11, true), (12, true), (13, false), (14, false), (15, false), (16, false), (17, false)] (sVar 3)))) (sOp dAdd (sFz (s2 dRepL (sFz (fLst (aCons (sC (.bl true)) aNil))) (sC (.int 12)))) (sFz (s2 dRepL (sFz (fLst (aCons (sC (.bl false)) aNil))) (sC (.int 5))))))) (sRet (sC (.bl false))) sNx)
    (sSeq (sIfS (bOf (sOp dNe (sFz (fLc [3] (iOf (sVar 2)) (gN 3) bYes (sXis [(1, false), (2, false), (3, false), (4, false), (5, false), (6, false), (7, false), (8, false), (9, false), (10, false), (11, false), (12, false), (13, true), (14, true), (15, true), (16, false), (17, false)] (sVar 3)))) (sOp dAdd (sOp dAdd (sFz (s2 dRepL (sFz (fLst (aCons (sC (.bl false)) aNil))) (sC (.int 12)))) (sFz (s2 dRepL (sFz (fLst (aCons (sC (.bl true)) aNil))) (sC (.int 3))))) (sFz (s2 dRepL (sFz (fLst (aCons (sC (.bl false)) aNil))) (sC (.int 2))))))) (sRet (sC (.bl false))) sNx)
    (sSeq (sIfS (bOf (sOp dNe (sFz (fLc [3] (iOf (sVar 2)) (gN 3) bYes (sXis [(1, false), (2, false), (3, false), (4, false), (5, false), (6, false), (7, false), (8, false), (9, false), (10, false), (11, false), (12, false), (13, true), (14, true), (15, true), (16, true), (17, false)] (sVar 3)))) (sOp dAdd (sOp dAdd (sFz (s2 dRepL (sFz (fLst (aCons (sC (.bl false)) aNil))) (sC (.int 12)))) (sFz (s2 dRepL (sFz (fLst (aCons (sC (.bl true)) aNil))) (sC (.int 4))))) (sFz (fLst (aCons (sC (.bl false)) aNil)))))) (sRet (sC (.bl false))) sNx)
    (sRet (sOp dEq (sFz (fLc [3] (iOf (sVar 2)) (gN 3) bYes (sXis [(1, false), (2, false), (3, false), (4, false), (5, false), (6, false), (7, false), (8, false), (9, false), (10, false), (11, false), (12, false), (13, false), (14, false), (15, false), (16, false), (17, true)] (sVar 3)))) (sOp dAdd (sFz (s2 dRepL (sFz (fLst (aCons (sC (.bl false)) aNil))) (sC (.int 16)))) (sFz (fLst (aCons (sC (.bl true)) aNil)))))))))))
def g_law_classes_right : Fn := fnOf 4 b_law_classes_right
theorem d_law_classes_right {P : Program} {w : World} {K : PySem.W.Frag} {mg : Str → Option Value} {base : Heap} {cl : Cl} (T : Glo w K mg cl) (hB : SysB base) (C_law_made : Cal P w K mg base cl "_law_made" t_law_made 3 ["_law_a", "_law_b"] g_law_made) (C_law_marks : Cal P w K mg base cl "_law_marks" t_law_marks 1 ["_law_error"] g_law_marks) {f : Addr} {fd : FuncData} (F : Fun K "_law_classes_right" "_law_classes_right" t_law_classes_right f fd) : FnG P w K mg base 4 f fd ["_law_a", "_law_b"] (toSp ⟨K, cl⟩ 2 g_law_classes_right) := by
  have nd := sc_law_classes_right.nd
  exact (ok_fn (P := P) (w := w) (mg := mg) (base := base) (cl := cl) (k := 3) (body := b_law_classes_right) F sc_law_classes_right (fun cdv A outer s H E hr => dss_cons (ds_set (i := 2) nd rfl (by first | exact Or.inl rfl | exact Or.inr rfl) (c_call C_law_made (hr.mono (by decide)) (by rfl) [false, false] rfl (da_cons (de_var 0) (da_cons (de_var 1) da_nil))))
    (dss_cons (ds_if (dt_cmp (op_neD (hu65 hr)) od_ne (FE.fz (fe_lc (own := [("_law_error", 3)]) rfl nd (di_any (de_var 2)) (blkOk_by (N := N_law_classes_right) (sc := defScope t_law_classes_right) (by decide +kernel)) (fun _ _ _ _ _ => dg_name (i := 3) nd rfl (by first | exact Or.inl rfl | exact Or.inr rfl)) (fun _ _ _ _ _ => dts_nil) (fun _ _ _ _ _ => c_call C_law_marks (hr.mono (by decide)) (by rfl) [false] rfl (da_cons (de_var 3) da_nil)))) (FE.fz (fe_listRg (by rfl) T.list (by rfl) T.range de_int))) (dss_one (ds_ret de_bl)) dss_nil)
    (dss_cons (ds_if (dt_cmp (op_neD (hu65 hr)) od_ne (FE.fz (fe_lc (own := [("_law_error", 3)]) rfl nd (di_any (de_var 2)) (blkOk_by (N := N_law_classes_right) (sc := defScope t_law_classes_right) (by decide +kernel)) (fun _ _ _ _ _ => dg_name (i := 3) nd rfl (by first | exact Or.inl rfl | exact Or.inr rfl)) (fun _ _ _ _ _ => dts_nil) (fun _ _ _ _ _ => de_xis (de_var 3) (by rfl) T.isinstance (by decide +kernel) (by rfl) T.nx_NeverError T.xi_NeverError))) (de_add (FE.fz (fe_op op_repR of_repL (FE.fz (fe_lst (da_cons de_bl da_nil))) de_int)) (FE.fz (fe_op op_repR of_repL (FE.fz (fe_lst (da_cons de_bl da_nil))) de_int)))) (dss_one (ds_ret de_bl)) dss_nil)
    (dss_cons (ds_if (dt_cmp (op_neD (hu65 hr)) od_ne (FE.fz (fe_lc (own := [("_law_error", 3)]) rfl nd (di_any (de_var 2)) (blkOk_by (N := N_law_classes_right) (sc := defScope t_law_classes_right) (by decide +kernel)) (fun _ _ _ _ _ => dg_name (i := 3) nd rfl (by first | exact Or.inl rfl | exact Or.inr rfl)) (fun _ _ _ _ _ => dts_nil) (fun _ _ _ _ _ => de_xisB (de_var 3) (by rfl) T.isinstance (by decide +kernel) (by rfl) T.ValueError (by first | decide +kernel | kernel_rfl) T.xb_ValueError))) (de_add (FE.fz (fe_op op_repR of_repL (FE.fz (fe_lst (da_cons de_bl da_nil))) de_int)) (FE.fz (fe_op op_repR of_repL (FE.fz (fe_lst (da_cons de_bl da_nil))) de_int)))) (dss_one (ds_ret de_bl)) dss_nil)
    (dss_cons (ds_if (dt_cmp (op_neD (hu65 hr)) od_ne (FE.fz (fe_lc (own := [("_law_error", 3)]) rfl nd (di_any (de_var 2)) (blkOk_by (N := N_law_classes_right) (sc := defScope t_law_classes_right) (by decide +kernel)) (fun _ _ _ _ _ => dg_name (i := 3) nd rfl (by first | exact Or.inl rfl | exact Or.inr rfl)) (fun _ _ _ _ _ => dts_nil) (fun _ _ _ _ _ => de_xisB (de_var 3) (by rfl) T.isinstance (by decide +kernel) (by rfl) T.KeyError (by first | decide +kernel | kernel_rfl) T.xb_KeyError))) (de_add (de_add (FE.fz (fe_op op_repR of_repL (FE.fz (fe_lst (da_cons de_bl da_nil))) de_int)) (FE.fz (fe_op op_repR of_repL (FE.fz (fe_lst (da_cons de_bl da_nil))) de_int))) (FE.fz (fe_op op_repR of_repL (FE.fz (fe_lst (da_cons de_bl da_nil))) de_int)))) (dss_one (ds_ret de_bl)) dss_nil)
    (dss_cons (ds_if (dt_cmp (op_neD (hu65 hr)) od_ne (FE.fz (fe_lc (own := [("_law_error", 3)]) rfl nd (di_any (de_var 2)) (blkOk_by (N := N_law_classes_right) (sc := defScope t_law_classes_right) (by decide +kernel)) (fun _ _ _ _ _ => dg_name (i := 3) nd rfl (by first | exact Or.inl rfl | exact Or.inr rfl)) (fun _ _ _ _ _ => dts_nil) (fun _ _ _ _ _ => de_xisB (de_var 3) (by rfl) T.isinstance (by decide +kernel) (by rfl) T.LookupError (by first | decide +kernel | kernel_rfl) T.xb_LookupError))) (de_add (de_add (FE.fz (fe_op op_repR of_repL (FE.fz (fe_lst (da_cons de_bl da_nil))) de_int)) (FE.fz (fe_op op_repR of_repL (FE.fz (fe_lst (da_cons de_bl da_nil))) de_int))) (FE.fz (fe_lst (da_cons de_bl da_nil))))) (dss_one (ds_ret de_bl)) dss_nil)
    (dss_one (ds_ret (de_cmp (op_eqD (hu65 hr)) od_eq (FE.fz (fe_lc (own := [("_law_error", 3)]) rfl nd (di_any (de_var 2)) (blkOk_by (N := N_law_classes_right) (sc := defScope t_law_classes_right) (by decide +kernel)) (fun _ _ _ _ _ => dg_name (i := 3) nd rfl (by first | exact Or.inl rfl | exact Or.inr rfl)) (fun _ _ _ _ _ => dts_nil) (fun _ _ _ _ _ => de_xisB (de_var 3) (by rfl) T.isinstance (by decide +kernel) (by rfl) T.OverflowError (by first | decide +kernel | kernel_rfl) T.xb_OverflowError))) (de_add (FE.fz (fe_op op_repR of_repL (FE.fz (fe_lst (da_cons de_bl da_nil))) de_int)) (FE.fz (fe_lst (da_cons de_bl da_nil))))))))))))) :)
abbrev t_law_fields_right : Stmt := top 41
abbrev N_law_fields_right : List Str := ["_law_a", "_law_b", "_law_some", "_law_one", "_law_error"]
theorem sc_law_fields_right : FnScope N_law_fields_right ["_law_a", "_law_b"] (defScope t_law_fields_right) := ⟨rfl, rfl, rfl, by decide +kernel, rfl, by decide +kernel, by decide +kernel⟩
def b_law_fields_right : SS := sSeq (sSet 2 (sFz (fLst (aCons (sXat [1] "thing" (sXmk 1 ["thing"] (aCons (sVar 0) aNil))) (aCons (sXat [2, 3, 5] "reason" (sXmk 2 ["reason"] (aCons (sVar 0) aNil))) (aCons (sXat [2, 3, 5] "reason" (sXmk 3 ["reason"] (aCons (sVar 0) aNil))) (aCons (sXat [6] "complaints" (sXmk 6 ["complaints"] (aCons (sVar 0) aNil))) aNil)))))))
    (sSeq (sSet 2 (sOp dAdd (sVar 2) (sFz (fLst (aCons (sXat [4, 7, 9] "index" (sXmk 9 ["index"] (aCons (sVar 0) aNil))) (aCons (sXat [10] "line" (sXmk 10 ["line"] (aCons (sVar 0) aNil))) (aCons (sXat [11, 13] "word" (sXmk 11 ["word"] (aCons (sVar 0) aNil))) (aCons (sXat [12, 17] "limit" (sXmk 12 ["limit"] (aCons (sVar 0) aNil))) aNil))))))))
    (sSeq (sSet 2 (sOp dAdd (sVar 2) (sFz (fLst (aCons (sXat [11, 13] "word" (sXmk 13 ["word"] (aCons (sVar 0) aNil))) (aCons (sXat [14] "question" (sXmk 14 ["question"] (aCons (sVar 0) aNil))) (aCons (sXat [12, 17] "limit" (sXmk 17 ["limit"] (aCons (sVar 0) aNil))) (aCons (sXat [1] "thing" (sXmk 1 ["thing"] (aPerm 1 [0] (aCons (sVar 0) aNil)))) aNil))))))))
    (sSeq (sSet 2 (sOp dAdd (sVar 2) (sFz (fLst (aCons (sXat [2, 3, 5] "reason" (sXmk 2 ["reason"] (aPerm 1 [0] (aCons (sVar 0) aNil)))) (aCons (sXat [2, 3, 5] "reason" (sXmk 3 ["reason"] (aPerm 1 [0] (aCons (sVar 0) aNil)))) (aCons (sXat [6] "complaints" (sXmk 6 ["complaints"] (aPerm 1 [0] (aCons (sVar 0) aNil)))) aNil)))))))
    (sSeq (sSet 2 (sOp dAdd (sVar 2) (sFz (fLst (aCons (sXat [4, 7, 9] "index" (sXmk 9 ["index"] (aPerm 1 [0] (aCons (sVar 0) aNil)))) (aCons (sXat [10] "line" (sXmk 10 ["line"] (aPerm 1 [0] (aCons (sVar 0) aNil)))) (aCons (sXat [11, 13] "word" (sXmk 11 ["word"] (aPerm 1 [0] (aCons (sVar 0) aNil)))) aNil)))))))
    (sSeq (sSet 2 (sOp dAdd (sVar 2) (sFz (fLst (aCons (sXat [12, 17] "limit" (sXmk 12 ["limit"] (aPerm 1 [0] (aCons (sVar 0) aNil)))) (aCons (sXat [11, 13] "word" (sXmk 13 ["word"] (aPerm 1 [0] (aCons (sVar 0) aNil)))) (aCons (sXat [14] "question" (sXmk 14 ["question"] (aPerm 1 [0] (aCons (sVar 0) aNil)))) aNil)))))))
    (sSeq (sIfS (bOf (sOp dNe (sFz (fLc [3] (iOf (sOp dAdd (sVar 2) (sFz (fLst (aCons (sXat [12, 17] "limit" (sXmk 17 ["limit"] (aPerm 1 [0] (aCons (sVar 0) aNil)))) aNil))))) (gN 3) (bOf (sOp dNe (sFz (sN dReprD (aCons (sVar 3) aNil))) (sFz (sN dReprD (aCons (sVar 0) aNil))))) (sVar 3))) (sFz (fLst aNil)))) (sRet (sC (.bl false))) sNx)
    (sSeq (sSet 2 (sFz (fLst (aCons (sXmk 4 ["field", "index"] (aCons (sVar 0) (aCons (sVar 1) aNil))) (aCons (sXmk 7 ["field", "index"] (aCons (sVar 0) (aCons (sVar 1) aNil))) (aCons (sXmk 4 ["field", "index"] (aPerm 2 [1, 0] (aCons (sVar 1) (aCons (sVar 0) aNil)))) (aCons (sXmk 7 ["field", "index"] (aPerm 2 [1, 0] (aCons (sVar 1) (aCons (sVar 0) aNil)))) aNil)))))))
    (sSeq (sIfS (bOf (sOp dNe (sFz (fLc [4] (iOf (sVar 2)) (gN 4) (bOf (sOp dNe (sFz (sN dReprD (aCons (sFz (fLst (aCons (sXat [4, 7] "field" (sVar 4)) (aCons (sXat [4, 7, 9] "index" (sVar 4)) aNil)))) aNil))) (sFz (sN dReprD (aCons (sFz (fLst (aCons (sVar 0) (aCons (sVar 1) aNil)))) aNil))))) (sVar 4))) (sFz (fLst aNil)))) (sRet (sC (.bl false))) sNx)
    (sSeq (sSet 2 (sFz (fLst (aCons (sXmk 5 ["reason", "name"] (aCons (sVar 0) (aCons (sVar 1) aNil))) (aCons (sXmk 5 ["reason", "name"] (aPerm 2 [1, 0] (aCons (sVar 1) (aCons (sVar 0) aNil)))) aNil)))))
    (sSeq (sIfS (bOf (sOp dNe (sFz (fLc [4] (iOf (sVar 2)) (gN 4) (bOf (sOp dNe (sFz (sN dReprD (aCons (sFz (fLst (aCons (sXat [2, 3, 5] "reason" (sVar 4)) (aCons (sXat [5, 8, 15] "name" (sVar 4)) aNil)))) aNil))) (sFz (sN dReprD (aCons (sFz (fLst (aCons (sVar 0) (aCons (sVar 1) aNil)))) aNil))))) (sVar 4))) (sFz (fLst aNil)))) (sRet (sC (.bl false))) sNx)
    (sSeq (sSet 2 (sFz (fLst (aCons (sXmk 8 ["name", "other"] (aCons (sVar 0) (aCons (sVar 1) aNil))) (aCons (sXmk 8 ["name", "other"] (aPerm 2 [1, 0] (aCons (sVar 1) (aCons (sVar 0) aNil)))) aNil)))))
    (sSeq (sIfS (bOf (sOp dNe (sFz (fLc [4] (iOf (sVar 2)) (gN 4) (bOf (sOp dNe (sFz (sN dReprD (aCons (sFz (fLst (aCons (sXat [5, 8, 15] "name" (sVar 4)) (aCons (sXat [8] "other" (sVar 4)) aNil)))) aNil))) (sFz (sN dReprD (aCons (sFz (fLst (aCons (sVar 0) (aCons (sVar 1) aNil)))) aNil))))) (sVar 4))) (sFz (fLst aNil)))) (sRet (sC (.bl false))) sNx)
    (sSeq (sSet 2 (sFz (fLst (aCons (sXmk 15 ["name", "edition"] (aCons (sVar 0) (aCons (sVar 1) aNil))) (aCons (sXmk 15 ["name", "edition"] (aPerm 2 [1, 0] (aCons (sVar 1) (aCons (sVar 0) aNil)))) aNil)))))
    (sRet (sOp dEq (sFz (fLc [4] (iOf (sVar 2)) (gN 4) (bOf (sOp dNe (sFz (sN dReprD (aCons (sFz (fLst (aCons (sXat [5, 8, 15] "name" (sVar 4)) (aCons (sXat [15] "edition" (sVar 4)) aNil)))) aNil))) (sFz (sN dReprD (aCons (sFz (fLst (aCons (sVar 0) (aCons (sVar 1) aNil)))) aNil))))) (sVar 4))) (sFz (fLst aNil)))))))))))))))))
def g_law_fields_right : Fn := fnOf 5 b_law_fields_right
theorem d_law_fields_right {P : Program} {w : World} {K : PySem.W.Frag} {mg : Str → Option Value} {base : Heap} {cl : Cl} (T : Glo w K mg cl) (hB : SysB base) (C_InvalidTerm_init__ : MkX P w K mg base (cl 1) "InvalidTerm.__init__" t_InvalidTerm_init__ 1 ["self", "thing"] ["thing"]) (C_InvalidRule_init__ : MkX P w K mg base (cl 2) "InvalidRule.__init__" t_InvalidRule_init__ 1 ["self", "reason"] ["reason"]) (C_InvalidFunction_init__ : MkX P w K mg base (cl 3) "InvalidFunction.__init__" t_InvalidFunction_init__ 1 ["self", "reason"] ["reason"]) (C_InvalidPackage_init__ : MkX P w K mg base (cl 4) "InvalidPackage.__init__" t_InvalidPackage_init__ 1 ["self", "field", "index"] ["field", "index"]) (C_NoHouse_init__ : MkX P w K mg base (cl 5) "NoHouse.__init__" t_NoHouse_init__ 1 ["self", "reason", "name"] ["reason", "name"]) (C_Refused_init__ : MkX P w K mg base (cl 6) "Refused.__init__" t_Refused_init__ 1 ["self", "complaints"] ["complaints"]) (C_NotNext_init__ : MkX P w K mg base (cl 7) "NotNext.__init__" t_NotNext_init__ 1 ["self", "field", "index"] ["field", "index"]) (C_Mismatch_init__ : MkX P w K mg base (cl 8) "Mismatch.__init__" t_Mismatch_init__ 1 ["self", "name", "other"] ["name", "other"]) (C_BadPaper_init__ : MkX P w K mg base (cl 9) "BadPaper.__init__" t_BadPaper_init__ 1 ["self", "index"] ["index"]) (C_InvalidText_init__ : MkX P w K mg base (cl 10) "InvalidText.__init__" t_InvalidText_init__ 1 ["self", "line"] ["line"]) (C_InvalidCommand_init__ : MkX P w K mg base (cl 11) "InvalidCommand.__init__" t_InvalidCommand_init__ 1 ["self", "word"] ["word"]) (C_InvalidLimit_init__ : MkX P w K mg base (cl 12) "InvalidLimit.__init__" t_InvalidLimit_init__ 1 ["self", "limit"] ["limit"]) (C_UnknownWord_init__ : MkX P w K mg base (cl 13) "UnknownWord.__init__" t_UnknownWord_init__ 1 ["self", "word"] ["word"]) (C_NoAnswer_init__ : MkX P w K mg base (cl 14) "NoAnswer.__init__" t_NoAnswer_init__ 1 ["self", "question"] ["question"]) (C_NoEdition_init__ : MkX P w K mg base (cl 15) "NoEdition.__init__" t_NoEdition_init__ 1 ["self", "name", "edition"] ["name", "edition"]) (C_TooMany_init__ : MkX P w K mg base (cl 17) "TooMany.__init__" t_TooMany_init__ 1 ["self", "limit"] ["limit"]) {f : Addr} {fd : FuncData} (F : Fun K "_law_fields_right" "_law_fields_right" t_law_fields_right f fd) : FnG P w K mg base 3 f fd ["_law_a", "_law_b"] (toSp ⟨K, cl⟩ 2 g_law_fields_right) := by
  have nd := sc_law_fields_right.nd
  exact (ok_fn (P := P) (w := w) (mg := mg) (base := base) (cl := cl) (k := 2) (body := b_law_fields_right) F sc_law_fields_right (fun cdv A outer s H E hr => dss_cons (ds_set (i := 2) nd rfl (by first | exact Or.inl rfl | exact Or.inr rfl) (FE.fz (fe_lst (da_cons (de_xat T.xf_thing (de_xmk C_InvalidTerm_init__ (hr.mono (by decide)) (by rfl) T.nx_InvalidTerm (da_cons (de_var 0) da_nil))) (da_cons (de_xat T.xf_reason (de_xmk C_InvalidRule_init__ (hr.mono (by decide)) (by rfl) T.nx_InvalidRule (da_cons (de_var 0) da_nil))) (da_cons (de_xat T.xf_reason (de_xmk C_InvalidFunction_init__ (hr.mono (by decide)) (by rfl) T.nx_InvalidFunction (da_cons (de_var 0) da_nil))) (da_cons (de_xat T.xf_complaints (de_xmk C_Refused_init__ (hr.mono (by decide)) (by rfl) T.nx_Refused (da_cons (de_var 0) da_nil))) da_nil)))))))
    (dss_cons (ds_set (i := 2) nd rfl (by first | exact Or.inl rfl | exact Or.inr rfl) (de_add (de_var 2) (FE.fz (fe_lst (da_cons (de_xat T.xf_index (de_xmk C_BadPaper_init__ (hr.mono (by decide)) (by rfl) T.nx_BadPaper (da_cons (de_var 0) da_nil))) (da_cons (de_xat T.xf_line (de_xmk C_InvalidText_init__ (hr.mono (by decide)) (by rfl) T.nx_InvalidText (da_cons (de_var 0) da_nil))) (da_cons (de_xat T.xf_word (de_xmk C_InvalidCommand_init__ (hr.mono (by decide)) (by rfl) T.nx_InvalidCommand (da_cons (de_var 0) da_nil))) (da_cons (de_xat T.xf_limit (de_xmk C_InvalidLimit_init__ (hr.mono (by decide)) (by rfl) T.nx_InvalidLimit (da_cons (de_var 0) da_nil))) da_nil))))))))
    (dss_cons (ds_set (i := 2) nd rfl (by first | exact Or.inl rfl | exact Or.inr rfl) (de_add (de_var 2) (FE.fz (fe_lst (da_cons (de_xat T.xf_word (de_xmk C_UnknownWord_init__ (hr.mono (by decide)) (by rfl) T.nx_UnknownWord (da_cons (de_var 0) da_nil))) (da_cons (de_xat T.xf_question (de_xmk C_NoAnswer_init__ (hr.mono (by decide)) (by rfl) T.nx_NoAnswer (da_cons (de_var 0) da_nil))) (da_cons (de_xat T.xf_limit (de_xmk C_TooMany_init__ (hr.mono (by decide)) (by rfl) T.nx_TooMany (da_cons (de_var 0) da_nil))) (da_cons (de_xat T.xf_thing (de_xmkK (ks := ["thing"]) [0] C_InvalidTerm_init__ (hr.mono (by decide)) (by rfl) T.nx_InvalidTerm (fun _ _ _ _ _ _ _ ws hl => match ws, hl with | [_], _ => rfl) (dk_cons (de_var 0) dk_nil))) da_nil))))))))
    (dss_cons (ds_set (i := 2) nd rfl (by first | exact Or.inl rfl | exact Or.inr rfl) (de_add (de_var 2) (FE.fz (fe_lst (da_cons (de_xat T.xf_reason (de_xmkK (ks := ["reason"]) [0] C_InvalidRule_init__ (hr.mono (by decide)) (by rfl) T.nx_InvalidRule (fun _ _ _ _ _ _ _ ws hl => match ws, hl with | [_], _ => rfl) (dk_cons (de_var 0) dk_nil))) (da_cons (de_xat T.xf_reason (de_xmkK (ks := ["reason"]) [0] C_InvalidFunction_init__ (hr.mono (by decide)) (by rfl) T.nx_InvalidFunction (fun _ _ _ _ _ _ _ ws hl => match ws, hl with | [_], _ => rfl) (dk_cons (de_var 0) dk_nil))) (da_cons (de_xat T.xf_complaints (de_xmkK (ks := ["complaints"]) [0] C_Refused_init__ (hr.mono (by decide)) (by rfl) T.nx_Refused (fun _ _ _ _ _ _ _ ws hl => match ws, hl with | [_], _ => rfl) (dk_cons (de_var 0) dk_nil))) da_nil)))))))
    (dss_cons (ds_set (i := 2) nd rfl (by first | exact Or.inl rfl | exact Or.inr rfl) (de_add (de_var 2) (FE.fz (fe_lst (da_cons (de_xat T.xf_index (de_xmkK (ks := ["index"]) [0] C_BadPaper_init__ (hr.mono (by decide)) (by rfl) T.nx_BadPaper (fun _ _ _ _ _ _ _ ws hl => match ws, hl with | [_], _ => rfl) (dk_cons (de_var 0) dk_nil))) (da_cons (de_xat T.xf_line (de_xmkK (ks := ["line"]) [0] C_InvalidText_init__ (hr.mono (by decide)) (by rfl) T.nx_InvalidText (fun _ _ _ _ _ _ _ ws hl => match ws, hl with | [_], _ => rfl) (dk_cons (de_var 0) dk_nil))) (da_cons (de_xat T.xf_word (de_xmkK (ks := ["word"]) [0] C_InvalidCommand_init__ (hr.mono (by decide)) (by rfl) T.nx_InvalidCommand (fun _ _ _ _ _ _ _ ws hl => match ws, hl with | [_], _ => rfl) (dk_cons (de_var 0) dk_nil))) da_nil)))))))
    (dss_cons (ds_set (i := 2) nd rfl (by first | exact Or.inl rfl | exact Or.inr rfl) (de_add (de_var 2) (FE.fz (fe_lst (da_cons (de_xat T.xf_limit (de_xmkK (ks := ["limit"]) [0] C_InvalidLimit_init__ (hr.mono (by decide)) (by rfl) T.nx_InvalidLimit (fun _ _ _ _ _ _ _ ws hl => match ws, hl with | [_], _ => rfl) (dk_cons (de_var 0) dk_nil))) (da_cons (de_xat T.xf_word (de_xmkK (ks := ["word"]) [0] C_UnknownWord_init__ (hr.mono (by decide)) (by rfl) T.nx_UnknownWord (fun _ _ _ _ _ _ _ ws hl => match ws, hl with | [_], _ => rfl) (dk_cons (de_var 0) dk_nil))) (da_cons (de_xat T.xf_question (de_xmkK (ks := ["question"]) [0] C_NoAnswer_init__ (hr.mono (by decide)) (by rfl) T.nx_NoAnswer (fun _ _ _ _ _ _ _ ws hl => match ws, hl with | [_], _ => rfl) (dk_cons (de_var 0) dk_nil))) da_nil)))))))
    (dss_cons (ds_if (dt_cmp (op_neD (hu65 hr)) od_ne (FE.fz (fe_lc (own := [("_law_one", 3)]) rfl nd (di_any (de_add (de_var 2) (FE.fz (fe_lst (da_cons (de_xat T.xf_limit (de_xmkK (ks := ["limit"]) [0] C_TooMany_init__ (hr.mono (by decide)) (by rfl) T.nx_TooMany (fun _ _ _ _ _ _ _ ws hl => match ws, hl with | [_], _ => rfl) (dk_cons (de_var 0) dk_nil))) da_nil))))) (blkOk_by (N := N_law_fields_right) (sc := defScope t_law_fields_right) (by decide +kernel)) (fun _ _ _ _ _ => dg_name (i := 3) nd rfl (by first | exact Or.inl rfl | exact Or.inr rfl)) (fun _ _ _ _ _ => dts_one (dt_cmp (op_neD (hu65 hr)) od_ne (de_callB (call_reprD (hu65 hr) hr.gd hB) ca_reprD (by rfl) T.repr (by decide +kernel) (da_cons (de_var 3) da_nil)) (de_callB (call_reprD (hu65 hr) hr.gd hB) ca_reprD (by rfl) T.repr (by decide +kernel) (da_cons (de_var 0) da_nil)))) (fun _ _ _ _ _ => de_var 3))) (FE.fz (fe_lst da_nil))) (dss_one (ds_ret de_bl)) dss_nil)
    (dss_cons (ds_set (i := 2) nd rfl (by first | exact Or.inl rfl | exact Or.inr rfl) (FE.fz (fe_lst (da_cons (de_xmk C_InvalidPackage_init__ (hr.mono (by decide)) (by rfl) T.nx_InvalidPackage (da_cons (de_var 0) (da_cons (de_var 1) da_nil))) (da_cons (de_xmk C_NotNext_init__ (hr.mono (by decide)) (by rfl) T.nx_NotNext (da_cons (de_var 0) (da_cons (de_var 1) da_nil))) (da_cons (de_xmkK (ks := ["index", "field"]) [1, 0] C_InvalidPackage_init__ (hr.mono (by decide)) (by rfl) T.nx_InvalidPackage (fun _ _ _ _ _ _ _ ws hl => match ws, hl with | [_, _], _ => rfl) (dk_cons (de_var 1) (dk_cons (de_var 0) dk_nil))) (da_cons (de_xmkK (ks := ["index", "field"]) [1, 0] C_NotNext_init__ (hr.mono (by decide)) (by rfl) T.nx_NotNext (fun _ _ _ _ _ _ _ ws hl => match ws, hl with | [_, _], _ => rfl) (dk_cons (de_var 1) (dk_cons (de_var 0) dk_nil))) da_nil)))))))
    (dss_cons (ds_if (dt_cmp (op_neD (hu65 hr)) od_ne (FE.fz (fe_lc (own := [("_law_error", 4)]) rfl nd (di_any (de_var 2)) (blkOk_by (N := N_law_fields_right) (sc := defScope t_law_fields_right) (by decide +kernel)) (fun _ _ _ _ _ => dg_name (i := 4) nd rfl (by first | exact Or.inl rfl | exact Or.inr rfl)) (fun _ _ _ _ _ => dts_one (dt_cmp (op_neD (hu65 hr)) od_ne (de_callB (call_reprD (hu65 hr) hr.gd hB) ca_reprD (by rfl) T.repr (by decide +kernel) (da_cons (FE.fz (fe_lst (da_cons (de_xat T.xf_field (de_var 4)) (da_cons (de_xat T.xf_index (de_var 4)) da_nil)))) da_nil)) (de_callB (call_reprD (hu65 hr) hr.gd hB) ca_reprD (by rfl) T.repr (by decide +kernel) (da_cons (FE.fz (fe_lst (da_cons (de_var 0) (da_cons (de_var 1) da_nil)))) da_nil)))) (fun _ _ _ _ _ => de_var 4))) (FE.fz (fe_lst da_nil))) (dss_one (ds_ret de_bl)) dss_nil)
    (dss_cons (ds_set (i := 2) nd rfl (by first | exact Or.inl rfl | exact Or.inr rfl) (FE.fz (fe_lst (da_cons (de_xmk C_NoHouse_init__ (hr.mono (by decide)) (by rfl) T.nx_NoHouse (da_cons (de_var 0) (da_cons (de_var 1) da_nil))) (da_cons (de_xmkK (ks := ["name", "reason"]) [1, 0] C_NoHouse_init__ (hr.mono (by decide)) (by rfl) T.nx_NoHouse (fun _ _ _ _ _ _ _ ws hl => match ws, hl with | [_, _], _ => rfl) (dk_cons (de_var 1) (dk_cons (de_var 0) dk_nil))) da_nil)))))
    (dss_cons (ds_if (dt_cmp (op_neD (hu65 hr)) od_ne (FE.fz (fe_lc (own := [("_law_error", 4)]) rfl nd (di_any (de_var 2)) (blkOk_by (N := N_law_fields_right) (sc := defScope t_law_fields_right) (by decide +kernel)) (fun _ _ _ _ _ => dg_name (i := 4) nd rfl (by first | exact Or.inl rfl | exact Or.inr rfl)) (fun _ _ _ _ _ => dts_one (dt_cmp (op_neD (hu65 hr)) od_ne (de_callB (call_reprD (hu65 hr) hr.gd hB) ca_reprD (by rfl) T.repr (by decide +kernel) (da_cons (FE.fz (fe_lst (da_cons (de_xat T.xf_reason (de_var 4)) (da_cons (de_xat T.xf_name (de_var 4)) da_nil)))) da_nil)) (de_callB (call_reprD (hu65 hr) hr.gd hB) ca_reprD (by rfl) T.repr (by decide +kernel) (da_cons (FE.fz (fe_lst (da_cons (de_var 0) (da_cons (de_var 1) da_nil)))) da_nil)))) (fun _ _ _ _ _ => de_var 4))) (FE.fz (fe_lst da_nil))) (dss_one (ds_ret de_bl)) dss_nil)
    (dss_cons (ds_set (i := 2) nd rfl (by first | exact Or.inl rfl | exact Or.inr rfl) (FE.fz (fe_lst (da_cons (de_xmk C_Mismatch_init__ (hr.mono (by decide)) (by rfl) T.nx_Mismatch (da_cons (de_var 0) (da_cons (de_var 1) da_nil))) (da_cons (de_xmkK (ks := ["other", "name"]) [1, 0] C_Mismatch_init__ (hr.mono (by decide)) (by rfl) T.nx_Mismatch (fun _ _ _ _ _ _ _ ws hl => match ws, hl with | [_, _], _ => rfl) (dk_cons (de_var 1) (dk_cons (de_var 0) dk_nil))) da_nil)))))
    (dss_cons (ds_if (dt_cmp (op_neD (hu65 hr)) od_ne (FE.fz (fe_lc (own := [("_law_error", 4)]) rfl nd (di_any (de_var 2)) (blkOk_by (N := N_law_fields_right) (sc := defScope t_law_fields_right) (by decide +kernel)) (fun _ _ _ _ _ => dg_name (i := 4) nd rfl (by first | exact Or.inl rfl | exact Or.inr rfl)) (fun _ _ _ _ _ => dts_one (dt_cmp (op_neD (hu65 hr)) od_ne (de_callB (call_reprD (hu65 hr) hr.gd hB) ca_reprD (by rfl) T.repr (by decide +kernel) (da_cons (FE.fz (fe_lst (da_cons (de_xat T.xf_name (de_var 4)) (da_cons (de_xat T.xf_other (de_var 4)) da_nil)))) da_nil)) (de_callB (call_reprD (hu65 hr) hr.gd hB) ca_reprD (by rfl) T.repr (by decide +kernel) (da_cons (FE.fz (fe_lst (da_cons (de_var 0) (da_cons (de_var 1) da_nil)))) da_nil)))) (fun _ _ _ _ _ => de_var 4))) (FE.fz (fe_lst da_nil))) (dss_one (ds_ret de_bl)) dss_nil)
    (dss_cons (ds_set (i := 2) nd rfl (by first | exact Or.inl rfl | exact Or.inr rfl) (FE.fz (fe_lst (da_cons (de_xmk C_NoEdition_init__ (hr.mono (by decide)) (by rfl) T.nx_NoEdition (da_cons (de_var 0) (da_cons (de_var 1) da_nil))) (da_cons (de_xmkK (ks := ["edition", "name"]) [1, 0] C_NoEdition_init__ (hr.mono (by decide)) (by rfl) T.nx_NoEdition (fun _ _ _ _ _ _ _ ws hl => match ws, hl with | [_, _], _ => rfl) (dk_cons (de_var 1) (dk_cons (de_var 0) dk_nil))) da_nil)))))
    (dss_one (ds_ret (de_cmp (op_eqD (hu65 hr)) od_eq (FE.fz (fe_lc (own := [("_law_error", 4)]) rfl nd (di_any (de_var 2)) (blkOk_by (N := N_law_fields_right) (sc := defScope t_law_fields_right) (by decide +kernel)) (fun _ _ _ _ _ => dg_name (i := 4) nd rfl (by first | exact Or.inl rfl | exact Or.inr rfl)) (fun _ _ _ _ _ => dts_one (dt_cmp (op_neD (hu65 hr)) od_ne (de_callB (call_reprD (hu65 hr) hr.gd hB) ca_reprD (by rfl) T.repr (by decide +kernel) (da_cons (FE.fz (fe_lst (da_cons (de_xat T.xf_name (de_var 4)) (da_cons (de_xat T.xf_edition (de_var 4)) da_nil)))) da_nil)) (de_callB (call_reprD (hu65 hr) hr.gd hB) ca_reprD (by rfl) T.repr (by decide +kernel) (da_cons (FE.fz (fe_lst (da_cons (de_var 0) (da_cons (de_var 1) da_nil)))) da_nil)))) (fun _ _ _ _ _ => de_var 4))) (FE.fz (fe_lst da_nil))))))))))))))))))) :)
abbrev t_law : Stmt := top 42
abbrev N_law : List Str := ["_law_script", "_law_pen_here", "_law_odd", "_law_entries", "_law_k", "_law_entry", "_law_text_here", "_law_due", "_law_a", "_law_b"]
theorem sc_law : FnScope N_law ["_law_script"] (defScope t_law) := ⟨rfl, rfl, rfl, by decide +kernel, rfl, by decide +kernel, by decide +kernel⟩
def b_law : SS := sSeq (sSet 1 (sMu (fCallF g_law_pen (aCons (sVar 0) aNil))))
    (sSeq (sSet 2 (sFz (fLst (aCons (sC .non) (aCons (sC (.bl true)) (aCons (sC (.int 0)) (aCons (sC (.int 7)) (aCons (sC (.str ("" : Str))) (aCons (sTup aNil) (aCons (sTup (aCons (sC (.str ("a" : Str))) aNil)) (aCons (sFz (fLst (aCons (sC (.str ("a" : Str))) aNil))) (aCons (sFz fEmptyD) (aCons (sTup (aCons (sC (.str ("a.b" : Str))) aNil)) (aCons (sC (.str ("self" : Str))) (aCons (sC (.str ("head" : Str))) (aCons (sC (.str ("self.a" : Str))) (aCons (sC (.str ("a.head" : Str))) (aCons (sC (.str ("a.b.c" : Str))) (aCons (sC (.str ("V0000" : Str))) aNil)))))))))))))))))))
    (sSeq (sSet 3 (sFz (fLc [4] (iRange1 (aCons (sC (.int 4)) aNil)) (gN 4) bYes (sOp dIx (sVar 2) (sCall [true, false] g_law_draw (aCons (sVar 1) (aCons (sC (.int 16)) aNil)))))))
    (sSeq (sSet 3 (sOp dAdd (sVar 3) (sFz (fLst (aCons (sC (.str ("int\n" : Str))) (aCons (sC (.str ("base.int\n" : Str))) (aCons (sC (.str ("int\n.a" : Str))) (aCons (sC (.str ("a.\nint" : Str))) (aCons (sC (.str ("T\n" : Str))) (aCons (sC (.str ("T0\n" : Str))) (aCons (sC (.str ("\nT" : Str))) (aCons (sC (.str ("\n" : Str))) aNil))))))))))))
    (sSeq (sFor (iRange1 (aCons (sC (.int 12)) aNil)) (gN 4) (sSeq (sSet 6 (sCall [true] g_law_text (aCons (sVar 1) aNil)))
    (sSet 3 (sOp dAdd (sVar 3) (sFz (fLst (aCons (sVar 6) (aCons (sCall [true, false] g_law_bent (aCons (sVar 1) (aCons (sVar 6) aNil))) aNil))))))))
    (sSeq (sFor (iOf (sVar 3)) (gN 5) (sSeq (sSet 7 (sFz (sN dReprD (aCons (sFz (fLst (aCons (sCall [false] g_law_is_name (aCons (sVar 5) aNil)) (aCons (sCall [false] g_law_is_word (aCons (sVar 5) aNil)) (aCons (sCall [false] g_law_is_variable (aCons (sVar 5) aNil)) aNil))))) aNil))))
    (sSeq (sIfS (bOf (sOp dNe (sFz (sN dReprD (aCons (sFz (fLst (aCons (sCall [false] g_is_name (aCons (sVar 5) aNil)) (aCons (sCall [false] g_is_word (aCons (sVar 5) aNil)) (aCons (sCall [false] g_is_variable (aCons (sVar 5) aNil)) aNil))))) aNil))) (sVar 7))) (sRet (sC (.bl false))) sNx)
    (sIfS (bOf (sOp dNe (sFz (sN dReprD (aCons (sFz (fLst (aCons (sCall [false] g_is_name (aPerm 1 [0] (aCons (sVar 5) aNil))) (aCons (sCall [false] g_is_word (aPerm 1 [0] (aCons (sVar 5) aNil))) (aCons (sCall [false] g_is_variable (aPerm 1 [0] (aCons (sVar 5) aNil))) aNil))))) aNil))) (sVar 7))) (sRet (sC (.bl false))) sNx))))
    (sSeq (sPar 8 9 (aCons (sOp dIx (sVar 2) (sCall [true, false] g_law_draw (aCons (sVar 1) (aCons (sC (.int 16)) aNil)))) (aCons (sOp dIx (sVar 2) (sCall [true, false] g_law_draw (aCons (sVar 1) (aCons (sC (.int 16)) aNil)))) aNil)))
    (sSeq (sIfS (bOr (bNot (bTru (sCall [false, false] g_law_classes_right (aCons (sVar 8) (aCons (sVar 9) aNil))))) (bNot (bTru (sCall [false, false] g_law_fields_right (aCons (sVar 8) (aCons (sVar 9) aNil)))))) (sRet (sC (.bl false))) sNx)
    (sRet (sAnd (sOp dIs2 (sCall [false] g_is_word (aCons (sC (.str ("base.int" : Str))) aNil)) (sC (.bl true))) (sAnd (sOp dIs2 (sCall [false] g_is_variable (aCons (sC (.str ("T" : Str))) aNil)) (sC (.bl true))) (sOp dIs2 (sCall [false] g_is_name (aCons (sC (.str ("int" : Str))) aNil)) (sC (.bl true)))))))))))))
def g_law : Fn := fnOf 10 b_law
theorem d_law {P : Program} {w : World} {K : PySem.W.Frag} {mg : Str → Option Value} {base : Heap} {cl : Cl} (T : Glo w K mg cl) (hB : SysB base) (C_is_name : Cal P w K mg base cl "is_name" t_is_name 1 ["thing"] g_is_name) (C_is_word : Cal P w K mg base cl "is_word" t_is_word 2 ["thing"] g_is_word) (C_is_variable : Cal P w K mg base cl "is_variable" t_is_variable 1 ["thing"] g_is_variable) (C_law_pen : CalF P w K mg base cl "_law_pen" 1 ["_law_script"] g_law_pen) (C_law_draw : Cal P w K mg base cl "_law_draw" t_law_draw 1 ["_law_pen_here", "_law_many"] g_law_draw) (C_law_is_name : Cal P w K mg base cl "_law_is_name" t_law_is_name 1 ["_law_entry"] g_law_is_name) (C_law_is_word : Cal P w K mg base cl "_law_is_word" t_law_is_word 2 ["_law_entry"] g_law_is_word) (C_law_is_variable : Cal P w K mg base cl "_law_is_variable" t_law_is_variable 1 ["_law_entry"] g_law_is_variable) (C_law_text : Cal P w K mg base cl "_law_text" t_law_text 3 ["_law_pen_here"] g_law_text) (C_law_bent : Cal P w K mg base cl "_law_bent" t_law_bent 2 ["_law_pen_here", "_law_text_here"] g_law_bent) (C_law_classes_right : Cal P w K mg base cl "_law_classes_right" t_law_classes_right 4 ["_law_a", "_law_b"] g_law_classes_right) (C_law_fields_right : Cal P w K mg base cl "_law_fields_right" t_law_fields_right 3 ["_law_a", "_law_b"] g_law_fields_right) {f : Addr} {fd : FuncData} (F : Fun K "law" "law" t_law f fd) : FnG P w K mg base 5 f fd ["_law_script"] (toSp ⟨K, cl⟩ 1 g_law) := by
  have nd := sc_law.nd
  exact (ok_fn (P := P) (w := w) (mg := mg) (base := base) (cl := cl) (k := 4) (body := b_law) F sc_law (fun cdv A outer s H E hr => dss_cons (ds_set (i := 1) nd rfl (by first | exact Or.inl rfl | exact Or.inr rfl) (FE.mu (c_callF C_law_pen (hr.mono (by decide)) (by rfl) rfl (da_cons (de_var 0) da_nil) (aCons_len aNil_len))))
    (dss_cons (ds_set (i := 2) nd rfl (by first | exact Or.inl rfl | exact Or.inr rfl) (FE.fz (fe_lst (da_cons de_non (da_cons de_bl (da_cons de_int (da_cons de_int (da_cons de_str (da_cons (de_tup da_nil) (da_cons (de_tup (da_cons de_str da_nil)) (da_cons (FE.fz (fe_lst (da_cons de_str da_nil))) (da_cons (FE.fz fe_emptyD) (da_cons (de_tup (da_cons de_str da_nil)) (da_cons de_str (da_cons de_str (da_cons de_str (da_cons de_str (da_cons de_str (da_cons de_str da_nil)))))))))))))))))))
    (dss_cons (ds_setLcF (i := 3) (own := [("_law_k", 4)]) rfl nd rfl rfl (sw_true rfl rfl rfl (by decide +kernel)) (di_range1 (by rfl) T.range (da_cons de_int da_nil)) (blkOk_by (N := N_law) (sc := defScope t_law) (by decide +kernel)) (fun _ _ _ _ _ => dg_name (i := 4) nd rfl (by first | exact Or.inl rfl | exact Or.inr rfl)) (fun _ _ _ _ _ => dts_nil) (fun _ _ _ _ _ => de_ix (de_var 2) (c_call C_law_draw (hr.mono (by decide)) (by rfl) [true, false] rfl (da_cons (de_var 1) (da_cons de_int da_nil)))))
    (dss_cons (ds_set (i := 3) nd rfl (by first | exact Or.inl rfl | exact Or.inr rfl) (de_add (de_var 3) (FE.fz (fe_lst (da_cons de_str (da_cons de_str (da_cons de_str (da_cons de_str (da_cons de_str (da_cons de_str (da_cons de_str (da_cons de_str da_nil))))))))))))
    (dss_cons (ds_for PassesOwn.never rfl (di_range1 (by rfl) T.range (da_cons de_int da_nil)) (dg_name (i := 4) nd rfl (by first | exact Or.inl rfl | exact Or.inr rfl)) (dss_cons (ds_set (i := 6) nd rfl (by first | exact Or.inl rfl | exact Or.inr rfl) (c_call C_law_text (hr.mono (by decide)) (by rfl) [true] rfl (da_cons (de_var 1) da_nil)))
    (dss_one (ds_set (i := 3) nd rfl (by first | exact Or.inl rfl | exact Or.inr rfl) (de_add (de_var 3) (FE.fz (fe_lst (da_cons (de_var 6) (da_cons (c_call C_law_bent (hr.mono (by decide)) (by rfl) [true, false] rfl (da_cons (de_var 1) (da_cons (de_var 6) da_nil))) da_nil)))))))))
    (dss_cons (ds_for PassesOwn.never rfl (di_any (de_var 3)) (dg_name (i := 5) nd rfl (by first | exact Or.inl rfl | exact Or.inr rfl)) (dss_cons (ds_set (i := 7) nd rfl (by first | exact Or.inl rfl | exact Or.inr rfl) (de_callB (call_reprD (hu65 hr) hr.gd hB) ca_reprD (by rfl) T.repr (by decide +kernel) (da_cons (FE.fz (fe_lst (da_cons (c_call C_law_is_name (hr.mono (by decide)) (by rfl) [false] rfl (da_cons (de_var 5) da_nil)) (da_cons (c_call C_law_is_word (hr.mono (by decide)) (by rfl) [false] rfl (da_cons (de_var 5) da_nil)) (da_cons (c_call C_law_is_variable (hr.mono (by decide)) (by rfl) [false] rfl (da_cons (de_var 5) da_nil)) da_nil))))) da_nil)))
    (dss_cons (ds_if (dt_cmp (op_neD (hu65 hr)) od_ne (de_callB (call_reprD (hu65 hr) hr.gd hB) ca_reprD (by rfl) T.repr (by decide +kernel) (da_cons (FE.fz (fe_lst (da_cons (c_call C_is_name (hr.mono (by decide)) (by rfl) [false] rfl (da_cons (de_var 5) da_nil)) (da_cons (c_call C_is_word (hr.mono (by decide)) (by rfl) [false] rfl (da_cons (de_var 5) da_nil)) (da_cons (c_call C_is_variable (hr.mono (by decide)) (by rfl) [false] rfl (da_cons (de_var 5) da_nil)) da_nil))))) da_nil)) (de_var 7)) (dss_one (ds_ret de_bl)) dss_nil)
    (dss_one (ds_if (dt_cmp (op_neD (hu65 hr)) od_ne (de_callB (call_reprD (hu65 hr) hr.gd hB) ca_reprD (by rfl) T.repr (by decide +kernel) (da_cons (FE.fz (fe_lst (da_cons (c_callK (ks := ["thing"]) [0] C_is_name (hr.mono (by decide)) (by rfl) (fun _ _ _ _ _ _ ws hl => match ws, hl with | [_], _ => rfl) [false] rfl (dk_cons (de_var 5) dk_nil)) (da_cons (c_callK (ks := ["thing"]) [0] C_is_word (hr.mono (by decide)) (by rfl) (fun _ _ _ _ _ _ ws hl => match ws, hl with | [_], _ => rfl) [false] rfl (dk_cons (de_var 5) dk_nil)) (da_cons (c_callK (ks := ["thing"]) [0] C_is_variable (hr.mono (by decide)) (by rfl) (fun _ _ _ _ _ _ ws hl => match ws, hl with | [_], _ => rfl) [false] rfl (dk_cons (de_var 5) dk_nil)) da_nil))))) da_nil)) (de_var 7)) (dss_one (ds_ret de_bl)) dss_nil)))))
    (dss_cons (ds_par (i := 8) (j := 9) rfl nd rfl rfl (by decide) rfl rfl (da_cons (de_ix (de_var 2) (c_call C_law_draw (hr.mono (by decide)) (by rfl) [true, false] rfl (da_cons (de_var 1) (da_cons de_int da_nil)))) (da_cons (de_ix (de_var 2) (c_call C_law_draw (hr.mono (by decide)) (by rfl) [true, false] rfl (da_cons (de_var 1) (da_cons de_int da_nil)))) da_nil)))
    (dss_cons (ds_if (DW.dt (dw_or (dt_not (dt_tru (c_call C_law_classes_right (hr.mono (by decide)) (by rfl) [false, false] rfl (da_cons (de_var 8) (da_cons (de_var 9) da_nil))))) (dw_or1 (dt_not (dt_tru (c_call C_law_fields_right (hr.mono (by decide)) (by rfl) [false, false] rfl (da_cons (de_var 8) (da_cons (de_var 9) da_nil)))))))) (dss_one (ds_ret de_bl)) dss_nil)
    (dss_one (ds_ret (de_and (de_cmp op_isAll od_is (c_call C_is_word (hr.mono (by decide)) (by rfl) [false] rfl (da_cons de_str da_nil)) de_bl) (de_and (de_cmp op_isAll od_is (c_call C_is_variable (hr.mono (by decide)) (by rfl) [false] rfl (da_cons de_str da_nil)) de_bl) (de_one (de_cmp op_isAll od_is (c_call C_is_name (hr.mono (by decide)) (by rfl) [false] rfl (da_cons de_str da_nil)) de_bl)))))))))))))) :)
theorem prog_ok {P : Program} {w : World} {K : PySem.W.Frag} {mg : Str → Option Value} {h : Heap} {fa x_NeverError x_InvalidTerm x_InvalidRule x_InvalidFunction x_InvalidPackage x_NoHouse x_Refused x_NotNext x_Mismatch x_BadPaper x_InvalidText x_InvalidCommand x_InvalidLimit x_UnknownWord x_NoAnswer x_NoEdition x_NothingToUndo x_TooMany m_InvalidTerm_init__ m_InvalidRule_init__ m_InvalidFunction_init__ m_InvalidPackage_init__ m_NoHouse_init__ m_Refused_init__ m_NotNext_init__ m_Mismatch_init__ m_BadPaper_init__ m_InvalidText_init__ m_InvalidCommand_init__ m_InvalidLimit_init__ m_UnknownWord_init__ m_NoAnswer_init__ m_NoEdition_init__ m_NothingToUndo_init__ m_TooMany_init__ : Addr} (X : K.In h) (G : h.Ns mainGlobals mg) (hfa : mg "law" = some (.ref fa)) (z_KeyError : PySem.W.nsIn K mainGlobals "KeyError" = some none) (z_LookupError : PySem.W.nsIn K mainGlobals "LookupError" = some none) (z_OverflowError : PySem.W.nsIn K mainGlobals "OverflowError" = some none) (z_ValueError : PySem.W.nsIn K mainGlobals "ValueError" = some none) (z_abs : PySem.W.nsIn K mainGlobals "abs" = some none) (z_all : PySem.W.nsIn K mainGlobals "all" = some none) (z_int : PySem.W.nsIn K mainGlobals "int" = some none) (z_isinstance : PySem.W.nsIn K mainGlobals "isinstance" = some none) (z_len : PySem.W.nsIn K mainGlobals "len" = some none) (z_list : PySem.W.nsIn K mainGlobals "list" = some none) (z_range : PySem.W.nsIn K mainGlobals "range" = some none) (z_repr : PySem.W.nsIn K mainGlobals "repr" = some none) (z_str : PySem.W.nsIn K mainGlobals "str" = some none) (D_is_name : DefAt K "is_name" t_is_name) (D_is_word : DefAt K "is_word" t_is_word) (D_is_variable : DefAt K "is_variable" t_is_variable) (D_law_pen : DefAt K "_law_pen" t_law_pen) (D_law_draw : DefAt K "_law_draw" t_law_draw) (D_law_is_name : DefAt K "_law_is_name" t_law_is_name) (D_law_is_word : DefAt K "_law_is_word" t_law_is_word) (D_law_is_variable : DefAt K "_law_is_variable" t_law_is_variable) (D_law_letters : DefAt K "_law_letters" t_law_letters) (D_law_text : DefAt K "_law_text" t_law_text) (D_law_bent : DefAt K "_law_bent" t_law_bent) (D_law_made : DefAt K "_law_made" t_law_made) (D_law_marks : DefAt K "_law_marks" t_law_marks) (D_law_classes_right : DefAt K "_law_classes_right" t_law_classes_right) (D_law_fields_right : DefAt K "_law_fields_right" t_law_fields_right) (D_law : DefAt K "law" t_law) (K_BARRED : ConAt K "BARRED" (.tup [.str ("self" : Str), .str ("head" : Str)])) (K_CAPITALS : ConAt K "CAPITALS" (.str ("ABCDEFGHIJKLMNOPQRSTUVWXYZ" : Str))) (K_FIGURES : ConAt K "FIGURES" (.str ("0123456789" : Str))) (K_LETTERS : ConAt K "LETTERS" (.str ("abcdefghijklmnopqrstuvwxyz" : Str))) (K_LONGEST_NAME : ConAt K "LONGEST_NAME" (.int 8)) (K_MOST_FIGURES : ConAt K "MOST_FIGURES" (.int 3)) (nX_NeverError : PySem.W.nsIn K mainGlobals "NeverError" = some (some (.ref x_NeverError))) (nX_InvalidTerm : PySem.W.nsIn K mainGlobals "InvalidTerm" = some (some (.ref x_InvalidTerm))) (nX_InvalidRule : PySem.W.nsIn K mainGlobals "InvalidRule" = some (some (.ref x_InvalidRule))) (nX_InvalidFunction : PySem.W.nsIn K mainGlobals "InvalidFunction" = some (some (.ref x_InvalidFunction))) (nX_InvalidPackage : PySem.W.nsIn K mainGlobals "InvalidPackage" = some (some (.ref x_InvalidPackage))) (nX_NoHouse : PySem.W.nsIn K mainGlobals "NoHouse" = some (some (.ref x_NoHouse))) (nX_Refused : PySem.W.nsIn K mainGlobals "Refused" = some (some (.ref x_Refused))) (nX_NotNext : PySem.W.nsIn K mainGlobals "NotNext" = some (some (.ref x_NotNext))) (nX_Mismatch : PySem.W.nsIn K mainGlobals "Mismatch" = some (some (.ref x_Mismatch))) (nX_BadPaper : PySem.W.nsIn K mainGlobals "BadPaper" = some (some (.ref x_BadPaper))) (nX_InvalidText : PySem.W.nsIn K mainGlobals "InvalidText" = some (some (.ref x_InvalidText))) (nX_InvalidCommand : PySem.W.nsIn K mainGlobals "InvalidCommand" = some (some (.ref x_InvalidCommand))) (nX_InvalidLimit : PySem.W.nsIn K mainGlobals "InvalidLimit" = some (some (.ref x_InvalidLimit))) (nX_UnknownWord : PySem.W.nsIn K mainGlobals "UnknownWord" = some (some (.ref x_UnknownWord))) (nX_NoAnswer : PySem.W.nsIn K mainGlobals "NoAnswer" = some (some (.ref x_NoAnswer))) (nX_NoEdition : PySem.W.nsIn K mainGlobals "NoEdition" = some (some (.ref x_NoEdition))) (nX_NothingToUndo : PySem.W.nsIn K mainGlobals "NothingToUndo" = some (some (.ref x_NothingToUndo))) (nX_TooMany : PySem.W.nsIn K mainGlobals "TooMany" = some (some (.ref x_TooMany))) (xh_InvalidTerm : PySem.W.excInitIn K x_InvalidTerm [.type "ValueError", .type "Exception", .type "BaseException", .type "object"] "ValueError.__new__" = true) (xo_InvalidTerm : PySem.W.excOver K x_InvalidTerm [.type "ValueError", .type "Exception", .type "BaseException", .type "object"] = true) (xs_InvalidTerm : PySem.W.findIn K (.ref x_InvalidTerm) "__setattr__" = some (some (.builtin "object.__setattr__"))) (xm_InvalidTerm : PySem.W.findIn K (.ref x_InvalidTerm) "__init__" = some (some (.ref m_InvalidTerm_init__))) (xt_InvalidTerm : PySem.W.typeIn K (.ref m_InvalidTerm_init__) = some (.type "function")) (xk_InvalidTerm : PySem.W.keepIn K (.ref x_InvalidTerm) = true) (xn_InvalidTerm_thing : PySem.W.findIn K (.ref x_InvalidTerm) "thing" = some none) (M_InvalidTerm_init__ : MetAt K "__init__" "InvalidTerm.__init__" t_InvalidTerm_init__ m_InvalidTerm_init__) (XC_InvalidTerm : ExcC K x_InvalidTerm) (xh_InvalidRule : PySem.W.excInitIn K x_InvalidRule [.type "ValueError", .type "Exception", .type "BaseException", .type "object"] "ValueError.__new__" = true) (xo_InvalidRule : PySem.W.excOver K x_InvalidRule [.type "ValueError", .type "Exception", .type "BaseException", .type "object"] = true) (xs_InvalidRule : PySem.W.findIn K (.ref x_InvalidRule) "__setattr__" = some (some (.builtin "object.__setattr__"))) (xm_InvalidRule : PySem.W.findIn K (.ref x_InvalidRule) "__init__" = some (some (.ref m_InvalidRule_init__))) (xt_InvalidRule : PySem.W.typeIn K (.ref m_InvalidRule_init__) = some (.type "function")) (xk_InvalidRule : PySem.W.keepIn K (.ref x_InvalidRule) = true) (xn_InvalidRule_reason : PySem.W.findIn K (.ref x_InvalidRule) "reason" = some none) (M_InvalidRule_init__ : MetAt K "__init__" "InvalidRule.__init__" t_InvalidRule_init__ m_InvalidRule_init__) (XC_InvalidRule : ExcC K x_InvalidRule) (xh_InvalidFunction : PySem.W.excInitIn K x_InvalidFunction [.type "ValueError", .type "Exception", .type "BaseException", .type "object"] "ValueError.__new__" = true) (xo_InvalidFunction : PySem.W.excOver K x_InvalidFunction [.type "ValueError", .type "Exception", .type "BaseException", .type "object"] = true) (xs_InvalidFunction : PySem.W.findIn K (.ref x_InvalidFunction) "__setattr__" = some (some (.builtin "object.__setattr__"))) (xm_InvalidFunction : PySem.W.findIn K (.ref x_InvalidFunction) "__init__" = some (some (.ref m_InvalidFunction_init__))) (xt_InvalidFunction : PySem.W.typeIn K (.ref m_InvalidFunction_init__) = some (.type "function")) (xk_InvalidFunction : PySem.W.keepIn K (.ref x_InvalidFunction) = true) (xn_InvalidFunction_reason : PySem.W.findIn K (.ref x_InvalidFunction) "reason" = some none) (M_InvalidFunction_init__ : MetAt K "__init__" "InvalidFunction.__init__" t_InvalidFunction_init__ m_InvalidFunction_init__) (XC_InvalidFunction : ExcC K x_InvalidFunction) (xh_InvalidPackage : PySem.W.excInitIn K x_InvalidPackage [.type "ValueError", .type "Exception", .type "BaseException", .type "object"] "ValueError.__new__" = true) (xo_InvalidPackage : PySem.W.excOver K x_InvalidPackage [.type "ValueError", .type "Exception", .type "BaseException", .type "object"] = true) (xs_InvalidPackage : PySem.W.findIn K (.ref x_InvalidPackage) "__setattr__" = some (some (.builtin "object.__setattr__"))) (xm_InvalidPackage : PySem.W.findIn K (.ref x_InvalidPackage) "__init__" = some (some (.ref m_InvalidPackage_init__))) (xt_InvalidPackage : PySem.W.typeIn K (.ref m_InvalidPackage_init__) = some (.type "function")) (xk_InvalidPackage : PySem.W.keepIn K (.ref x_InvalidPackage) = true) (xn_InvalidPackage_field : PySem.W.findIn K (.ref x_InvalidPackage) "field" = some none) (xn_InvalidPackage_index : PySem.W.findIn K (.ref x_InvalidPackage) "index" = some none) (M_InvalidPackage_init__ : MetAt K "__init__" "InvalidPackage.__init__" t_InvalidPackage_init__ m_InvalidPackage_init__) (XC_InvalidPackage : ExcC K x_InvalidPackage) (xh_NoHouse : PySem.W.excInitIn K x_NoHouse [.type "ValueError", .type "Exception", .type "BaseException", .type "object"] "ValueError.__new__" = true) (xo_NoHouse : PySem.W.excOver K x_NoHouse [.type "ValueError", .type "Exception", .type "BaseException", .type "object"] = true) (xs_NoHouse : PySem.W.findIn K (.ref x_NoHouse) "__setattr__" = some (some (.builtin "object.__setattr__"))) (xm_NoHouse : PySem.W.findIn K (.ref x_NoHouse) "__init__" = some (some (.ref m_NoHouse_init__))) (xt_NoHouse : PySem.W.typeIn K (.ref m_NoHouse_init__) = some (.type "function")) (xk_NoHouse : PySem.W.keepIn K (.ref x_NoHouse) = true) (xn_NoHouse_reason : PySem.W.findIn K (.ref x_NoHouse) "reason" = some none) (xn_NoHouse_name : PySem.W.findIn K (.ref x_NoHouse) "name" = some none) (M_NoHouse_init__ : MetAt K "__init__" "NoHouse.__init__" t_NoHouse_init__ m_NoHouse_init__) (XC_NoHouse : ExcC K x_NoHouse) (xh_Refused : PySem.W.excInitIn K x_Refused [.type "ValueError", .type "Exception", .type "BaseException", .type "object"] "ValueError.__new__" = true) (xo_Refused : PySem.W.excOver K x_Refused [.type "ValueError", .type "Exception", .type "BaseException", .type "object"] = true) (xs_Refused : PySem.W.findIn K (.ref x_Refused) "__setattr__" = some (some (.builtin "object.__setattr__"))) (xm_Refused : PySem.W.findIn K (.ref x_Refused) "__init__" = some (some (.ref m_Refused_init__))) (xt_Refused : PySem.W.typeIn K (.ref m_Refused_init__) = some (.type "function")) (xk_Refused : PySem.W.keepIn K (.ref x_Refused) = true) (xn_Refused_complaints : PySem.W.findIn K (.ref x_Refused) "complaints" = some none) (M_Refused_init__ : MetAt K "__init__" "Refused.__init__" t_Refused_init__ m_Refused_init__) (XC_Refused : ExcC K x_Refused) (xh_NotNext : PySem.W.excInitIn K x_NotNext [.type "ValueError", .type "Exception", .type "BaseException", .type "object"] "ValueError.__new__" = true) (xo_NotNext : PySem.W.excOver K x_NotNext [.type "ValueError", .type "Exception", .type "BaseException", .type "object"] = true) (xs_NotNext : PySem.W.findIn K (.ref x_NotNext) "__setattr__" = some (some (.builtin "object.__setattr__"))) (xm_NotNext : PySem.W.findIn K (.ref x_NotNext) "__init__" = some (some (.ref m_NotNext_init__))) (xt_NotNext : PySem.W.typeIn K (.ref m_NotNext_init__) = some (.type "function")) (xk_NotNext : PySem.W.keepIn K (.ref x_NotNext) = true) (xn_NotNext_field : PySem.W.findIn K (.ref x_NotNext) "field" = some none) (xn_NotNext_index : PySem.W.findIn K (.ref x_NotNext) "index" = some none) (M_NotNext_init__ : MetAt K "__init__" "NotNext.__init__" t_NotNext_init__ m_NotNext_init__) (XC_NotNext : ExcC K x_NotNext) (xh_Mismatch : PySem.W.excInitIn K x_Mismatch [.type "ValueError", .type "Exception", .type "BaseException", .type "object"] "ValueError.__new__" = true) (xo_Mismatch : PySem.W.excOver K x_Mismatch [.type "ValueError", .type "Exception", .type "BaseException", .type "object"] = true) (xs_Mismatch : PySem.W.findIn K (.ref x_Mismatch) "__setattr__" = some (some (.builtin "object.__setattr__"))) (xm_Mismatch : PySem.W.findIn K (.ref x_Mismatch) "__init__" = some (some (.ref m_Mismatch_init__))) (xt_Mismatch : PySem.W.typeIn K (.ref m_Mismatch_init__) = some (.type "function")) (xk_Mismatch : PySem.W.keepIn K (.ref x_Mismatch) = true) (xn_Mismatch_name : PySem.W.findIn K (.ref x_Mismatch) "name" = some none) (xn_Mismatch_other : PySem.W.findIn K (.ref x_Mismatch) "other" = some none) (M_Mismatch_init__ : MetAt K "__init__" "Mismatch.__init__" t_Mismatch_init__ m_Mismatch_init__) (XC_Mismatch : ExcC K x_Mismatch) (xh_BadPaper : PySem.W.excInitIn K x_BadPaper [.type "ValueError", .type "Exception", .type "BaseException", .type "object"] "ValueError.__new__" = true) (xo_BadPaper : PySem.W.excOver K x_BadPaper [.type "ValueError", .type "Exception", .type "BaseException", .type "object"] = true) (xs_BadPaper : PySem.W.findIn K (.ref x_BadPaper) "__setattr__" = some (some (.builtin "object.__setattr__"))) (xm_BadPaper : PySem.W.findIn K (.ref x_BadPaper) "__init__" = some (some (.ref m_BadPaper_init__))) (xt_BadPaper : PySem.W.typeIn K (.ref m_BadPaper_init__) = some (.type "function")) (xk_BadPaper : PySem.W.keepIn K (.ref x_BadPaper) = true) (xn_BadPaper_index : PySem.W.findIn K (.ref x_BadPaper) "index" = some none) (M_BadPaper_init__ : MetAt K "__init__" "BadPaper.__init__" t_BadPaper_init__ m_BadPaper_init__) (XC_BadPaper : ExcC K x_BadPaper) (xh_InvalidText : PySem.W.excInitIn K x_InvalidText [.type "ValueError", .type "Exception", .type "BaseException", .type "object"] "ValueError.__new__" = true) (xo_InvalidText : PySem.W.excOver K x_InvalidText [.type "ValueError", .type "Exception", .type "BaseException", .type "object"] = true) (xs_InvalidText : PySem.W.findIn K (.ref x_InvalidText) "__setattr__" = some (some (.builtin "object.__setattr__"))) (xm_InvalidText : PySem.W.findIn K (.ref x_InvalidText) "__init__" = some (some (.ref m_InvalidText_init__))) (xt_InvalidText : PySem.W.typeIn K (.ref m_InvalidText_init__) = some (.type "function")) (xk_InvalidText : PySem.W.keepIn K (.ref x_InvalidText) = true) (xn_InvalidText_line : PySem.W.findIn K (.ref x_InvalidText) "line" = some none) (M_InvalidText_init__ : MetAt K "__init__" "InvalidText.__init__" t_InvalidText_init__ m_InvalidText_init__) (XC_InvalidText : ExcC K x_InvalidText) (xh_InvalidCommand : PySem.W.excInitIn K x_InvalidCommand [.type "ValueError", .type "Exception", .type "BaseException", .type "object"] "ValueError.__new__" = true) (xo_InvalidCommand : PySem.W.excOver K x_InvalidCommand [.type "ValueError", .type "Exception", .type "BaseException", .type "object"] = true) (xs_InvalidCommand : PySem.W.findIn K (.ref x_InvalidCommand) "__setattr__" = some (some (.builtin "object.__setattr__"))) (xm_InvalidCommand : PySem.W.findIn K (.ref x_InvalidCommand) "__init__" = some (some (.ref m_InvalidCommand_init__))) (xt_InvalidCommand : PySem.W.typeIn K (.ref m_InvalidCommand_init__) = some (.type "function")) (xk_InvalidCommand : PySem.W.keepIn K (.ref x_InvalidCommand) = true) (xn_InvalidCommand_word : PySem.W.findIn K (.ref x_InvalidCommand) "word" = some none) (M_InvalidCommand_init__ : MetAt K "__init__" "InvalidCommand.__init__" t_InvalidCommand_init__ m_InvalidCommand_init__) (XC_InvalidCommand : ExcC K x_InvalidCommand) (xh_InvalidLimit : PySem.W.excInitIn K x_InvalidLimit [.type "ValueError", .type "Exception", .type "BaseException", .type "object"] "ValueError.__new__" = true) (xo_InvalidLimit : PySem.W.excOver K x_InvalidLimit [.type "ValueError", .type "Exception", .type "BaseException", .type "object"] = true) (xs_InvalidLimit : PySem.W.findIn K (.ref x_InvalidLimit) "__setattr__" = some (some (.builtin "object.__setattr__"))) (xm_InvalidLimit : PySem.W.findIn K (.ref x_InvalidLimit) "__init__" = some (some (.ref m_InvalidLimit_init__))) (xt_InvalidLimit : PySem.W.typeIn K (.ref m_InvalidLimit_init__) = some (.type "function")) (xk_InvalidLimit : PySem.W.keepIn K (.ref x_InvalidLimit) = true) (xn_InvalidLimit_limit : PySem.W.findIn K (.ref x_InvalidLimit) "limit" = some none) (M_InvalidLimit_init__ : MetAt K "__init__" "InvalidLimit.__init__" t_InvalidLimit_init__ m_InvalidLimit_init__) (XC_InvalidLimit : ExcC K x_InvalidLimit) (xh_UnknownWord : PySem.W.excInitIn K x_UnknownWord KeyE.keMro "LookupError.__new__" = true) (xo_UnknownWord : PySem.W.excOver K x_UnknownWord KeyE.keMro = true) (xs_UnknownWord : PySem.W.findIn K (.ref x_UnknownWord) "__setattr__" = some (some (.builtin "object.__setattr__"))) (xm_UnknownWord : PySem.W.findIn K (.ref x_UnknownWord) "__init__" = some (some (.ref m_UnknownWord_init__))) (xt_UnknownWord : PySem.W.typeIn K (.ref m_UnknownWord_init__) = some (.type "function")) (xk_UnknownWord : PySem.W.keepIn K (.ref x_UnknownWord) = true) (xn_UnknownWord_word : PySem.W.findIn K (.ref x_UnknownWord) "word" = some none) (M_UnknownWord_init__ : MetAt K "__init__" "UnknownWord.__init__" t_UnknownWord_init__ m_UnknownWord_init__) (XC_UnknownWord : ExcC K x_UnknownWord) (xh_NoAnswer : PySem.W.excInitIn K x_NoAnswer KeyE.keMro "LookupError.__new__" = true) (xo_NoAnswer : PySem.W.excOver K x_NoAnswer KeyE.keMro = true) (xs_NoAnswer : PySem.W.findIn K (.ref x_NoAnswer) "__setattr__" = some (some (.builtin "object.__setattr__"))) (xm_NoAnswer : PySem.W.findIn K (.ref x_NoAnswer) "__init__" = some (some (.ref m_NoAnswer_init__))) (xt_NoAnswer : PySem.W.typeIn K (.ref m_NoAnswer_init__) = some (.type "function")) (xk_NoAnswer : PySem.W.keepIn K (.ref x_NoAnswer) = true) (xn_NoAnswer_question : PySem.W.findIn K (.ref x_NoAnswer) "question" = some none) (M_NoAnswer_init__ : MetAt K "__init__" "NoAnswer.__init__" t_NoAnswer_init__ m_NoAnswer_init__) (XC_NoAnswer : ExcC K x_NoAnswer) (xh_NoEdition : PySem.W.excInitIn K x_NoEdition KeyE.keMro "LookupError.__new__" = true) (xo_NoEdition : PySem.W.excOver K x_NoEdition KeyE.keMro = true) (xs_NoEdition : PySem.W.findIn K (.ref x_NoEdition) "__setattr__" = some (some (.builtin "object.__setattr__"))) (xm_NoEdition : PySem.W.findIn K (.ref x_NoEdition) "__init__" = some (some (.ref m_NoEdition_init__))) (xt_NoEdition : PySem.W.typeIn K (.ref m_NoEdition_init__) = some (.type "function")) (xk_NoEdition : PySem.W.keepIn K (.ref x_NoEdition) = true) (xn_NoEdition_name : PySem.W.findIn K (.ref x_NoEdition) "name" = some none) (xn_NoEdition_edition : PySem.W.findIn K (.ref x_NoEdition) "edition" = some none) (M_NoEdition_init__ : MetAt K "__init__" "NoEdition.__init__" t_NoEdition_init__ m_NoEdition_init__) (XC_NoEdition : ExcC K x_NoEdition) (xh_NothingToUndo : PySem.W.excInitIn K x_NothingToUndo [.type "LookupError", .type "Exception", .type "BaseException", .type "object"] "LookupError.__new__" = true) (xo_NothingToUndo : PySem.W.excOver K x_NothingToUndo [.type "LookupError", .type "Exception", .type "BaseException", .type "object"] = true) (xs_NothingToUndo : PySem.W.findIn K (.ref x_NothingToUndo) "__setattr__" = some (some (.builtin "object.__setattr__"))) (xm_NothingToUndo : PySem.W.findIn K (.ref x_NothingToUndo) "__init__" = some (some (.ref m_NothingToUndo_init__))) (xt_NothingToUndo : PySem.W.typeIn K (.ref m_NothingToUndo_init__) = some (.type "function")) (xk_NothingToUndo : PySem.W.keepIn K (.ref x_NothingToUndo) = true) (M_NothingToUndo_init__ : MetAt K "__init__" "NothingToUndo.__init__" t_NothingToUndo_init__ m_NothingToUndo_init__) (XC_NothingToUndo : ExcC K x_NothingToUndo) (xh_TooMany : PySem.W.excInitIn K x_TooMany [.type "OverflowError", .type "ArithmeticError", .type "Exception", .type "BaseException", .type "object"] "OverflowError.__new__" = true) (xo_TooMany : PySem.W.excOver K x_TooMany [.type "OverflowError", .type "ArithmeticError", .type "Exception", .type "BaseException", .type "object"] = true) (xs_TooMany : PySem.W.findIn K (.ref x_TooMany) "__setattr__" = some (some (.builtin "object.__setattr__"))) (xm_TooMany : PySem.W.findIn K (.ref x_TooMany) "__init__" = some (some (.ref m_TooMany_init__))) (xt_TooMany : PySem.W.typeIn K (.ref m_TooMany_init__) = some (.type "function")) (xk_TooMany : PySem.W.keepIn K (.ref x_TooMany) = true) (xn_TooMany_limit : PySem.W.findIn K (.ref x_TooMany) "limit" = some none) (M_TooMany_init__ : MetAt K "__init__" "TooMany.__init__" t_TooMany_init__ m_TooMany_init__) (XC_TooMany : ExcC K x_TooMany) (xr_NeverError : ClX.CRead K x_NeverError (.type "type")) (xl_NeverError : PySem.W.findCls K (.ref x_NeverError) (.type "type") "__init__" = some (.val (.builtin "ValueError.__init__"))) (xq_InvalidTerm_BadPaper : PySem.W.kitOne K (.ref x_InvalidTerm) (.ref x_BadPaper) = some false) (xq_InvalidRule_BadPaper : PySem.W.kitOne K (.ref x_InvalidRule) (.ref x_BadPaper) = some false) (xq_InvalidFunction_BadPaper : PySem.W.kitOne K (.ref x_InvalidFunction) (.ref x_BadPaper) = some false) (xq_InvalidPackage_BadPaper : PySem.W.kitOne K (.ref x_InvalidPackage) (.ref x_BadPaper) = some false) (xq_NoHouse_BadPaper : PySem.W.kitOne K (.ref x_NoHouse) (.ref x_BadPaper) = some false) (xq_Refused_BadPaper : PySem.W.kitOne K (.ref x_Refused) (.ref x_BadPaper) = some false) (xq_NotNext_BadPaper : PySem.W.kitOne K (.ref x_NotNext) (.ref x_BadPaper) = some false) (xq_Mismatch_BadPaper : PySem.W.kitOne K (.ref x_Mismatch) (.ref x_BadPaper) = some false) (xq_BadPaper_BadPaper : PySem.W.kitOne K (.ref x_BadPaper) (.ref x_BadPaper) = some true) (xq_InvalidText_BadPaper : PySem.W.kitOne K (.ref x_InvalidText) (.ref x_BadPaper) = some false) (xq_InvalidCommand_BadPaper : PySem.W.kitOne K (.ref x_InvalidCommand) (.ref x_BadPaper) = some false) (xq_InvalidLimit_BadPaper : PySem.W.kitOne K (.ref x_InvalidLimit) (.ref x_BadPaper) = some false) (xq_UnknownWord_BadPaper : PySem.W.kitOne K (.ref x_UnknownWord) (.ref x_BadPaper) = some false) (xq_NoAnswer_BadPaper : PySem.W.kitOne K (.ref x_NoAnswer) (.ref x_BadPaper) = some false) (xq_NoEdition_BadPaper : PySem.W.kitOne K (.ref x_NoEdition) (.ref x_BadPaper) = some false) (xq_NothingToUndo_BadPaper : PySem.W.kitOne K (.ref x_NothingToUndo) (.ref x_BadPaper) = some false) (xq_TooMany_BadPaper : PySem.W.kitOne K (.ref x_TooMany) (.ref x_BadPaper) = some false) (xq_InvalidTerm_InvalidCommand : PySem.W.kitOne K (.ref x_InvalidTerm) (.ref x_InvalidCommand) = some false) (xq_InvalidRule_InvalidCommand : PySem.W.kitOne K (.ref x_InvalidRule) (.ref x_InvalidCommand) = some false) (xq_InvalidFunction_InvalidCommand : PySem.W.kitOne K (.ref x_InvalidFunction) (.ref x_InvalidCommand) = some false) (xq_InvalidPackage_InvalidCommand : PySem.W.kitOne K (.ref x_InvalidPackage) (.ref x_InvalidCommand) = some false) (xq_NoHouse_InvalidCommand : PySem.W.kitOne K (.ref x_NoHouse) (.ref x_InvalidCommand) = some false) (xq_Refused_InvalidCommand : PySem.W.kitOne K (.ref x_Refused) (.ref x_InvalidCommand) = some false) (xq_NotNext_InvalidCommand : PySem.W.kitOne K (.ref x_NotNext) (.ref x_InvalidCommand) = some false) (xq_Mismatch_InvalidCommand : PySem.W.kitOne K (.ref x_Mismatch) (.ref x_InvalidCommand) = some false) (xq_BadPaper_InvalidCommand : PySem.W.kitOne K (.ref x_BadPaper) (.ref x_InvalidCommand) = some false) (xq_InvalidText_InvalidCommand : PySem.W.kitOne K (.ref x_InvalidText) (.ref x_InvalidCommand) = some false) (xq_InvalidCommand_InvalidCommand : PySem.W.kitOne K (.ref x_InvalidCommand) (.ref x_InvalidCommand) = some true) (xq_InvalidLimit_InvalidCommand : PySem.W.kitOne K (.ref x_InvalidLimit) (.ref x_InvalidCommand) = some false) (xq_UnknownWord_InvalidCommand : PySem.W.kitOne K (.ref x_UnknownWord) (.ref x_InvalidCommand) = some false) (xq_NoAnswer_InvalidCommand : PySem.W.kitOne K (.ref x_NoAnswer) (.ref x_InvalidCommand) = some false) (xq_NoEdition_InvalidCommand : PySem.W.kitOne K (.ref x_NoEdition) (.ref x_InvalidCommand) = some false) (xq_NothingToUndo_InvalidCommand : PySem.W.kitOne K (.ref x_NothingToUndo) (.ref x_InvalidCommand) = some false) (xq_TooMany_InvalidCommand : PySem.W.kitOne K (.ref x_TooMany) (.ref x_InvalidCommand) = some false) (xq_InvalidTerm_InvalidFunction : PySem.W.kitOne K (.ref x_InvalidTerm) (.ref x_InvalidFunction) = some false) (xq_InvalidRule_InvalidFunction : PySem.W.kitOne K (.ref x_InvalidRule) (.ref x_InvalidFunction) = some false) (xq_InvalidFunction_InvalidFunction : PySem.W.kitOne K (.ref x_InvalidFunction) (.ref x_InvalidFunction) = some true) (xq_InvalidPackage_InvalidFunction : PySem.W.kitOne K (.ref x_InvalidPackage) (.ref x_InvalidFunction) = some false) (xq_NoHouse_InvalidFunction : PySem.W.kitOne K (.ref x_NoHouse) (.ref x_InvalidFunction) = some false) (xq_Refused_InvalidFunction : PySem.W.kitOne K (.ref x_Refused) (.ref x_InvalidFunction) = some false) (xq_NotNext_InvalidFunction : PySem.W.kitOne K (.ref x_NotNext) (.ref x_InvalidFunction) = some false) (xq_Mismatch_InvalidFunction : PySem.W.kitOne K (.ref x_Mismatch) (.ref x_InvalidFunction) = some false) (xq_BadPaper_InvalidFunction : PySem.W.kitOne K (.ref x_BadPaper) (.ref x_InvalidFunction) = some false) (xq_InvalidText_InvalidFunction : PySem.W.kitOne K (.ref x_InvalidText) (.ref x_InvalidFunction) = some false) (xq_InvalidCommand_InvalidFunction : PySem.W.kitOne K (.ref x_InvalidCommand) (.ref x_InvalidFunction) = some false) (xq_InvalidLimit_InvalidFunction : PySem.W.kitOne K (.ref x_InvalidLimit) (.ref x_InvalidFunction) = some false) (xq_UnknownWord_InvalidFunction : PySem.W.kitOne K (.ref x_UnknownWord) (.ref x_InvalidFunction) = some false) (xq_NoAnswer_InvalidFunction : PySem.W.kitOne K (.ref x_NoAnswer) (.ref x_InvalidFunction) = some false) (xq_NoEdition_InvalidFunction : PySem.W.kitOne K (.ref x_NoEdition) (.ref x_InvalidFunction) = some false) (xq_NothingToUndo_InvalidFunction : PySem.W.kitOne K (.ref x_NothingToUndo) (.ref x_InvalidFunction) = some false) (xq_TooMany_InvalidFunction : PySem.W.kitOne K (.ref x_TooMany) (.ref x_InvalidFunction) = some false) (xq_InvalidTerm_InvalidLimit : PySem.W.kitOne K (.ref x_InvalidTerm) (.ref x_InvalidLimit) = some false) (xq_InvalidRule_InvalidLimit : PySem.W.kitOne K (.ref x_InvalidRule) (.ref x_InvalidLimit) = some false) (xq_InvalidFunction_InvalidLimit : PySem.W.kitOne K (.ref x_InvalidFunction) (.ref x_InvalidLimit) = some false) (xq_InvalidPackage_InvalidLimit : PySem.W.kitOne K (.ref x_InvalidPackage) (.ref x_InvalidLimit) = some false) (xq_NoHouse_InvalidLimit : PySem.W.kitOne K (.ref x_NoHouse) (.ref x_InvalidLimit) = some false) (xq_Refused_InvalidLimit : PySem.W.kitOne K (.ref x_Refused) (.ref x_InvalidLimit) = some false) (xq_NotNext_InvalidLimit : PySem.W.kitOne K (.ref x_NotNext) (.ref x_InvalidLimit) = some false) (xq_Mismatch_InvalidLimit : PySem.W.kitOne K (.ref x_Mismatch) (.ref x_InvalidLimit) = some false) (xq_BadPaper_InvalidLimit : PySem.W.kitOne K (.ref x_BadPaper) (.ref x_InvalidLimit) = some false) (xq_InvalidText_InvalidLimit : PySem.W.kitOne K (.ref x_InvalidText) (.ref x_InvalidLimit) = some false) (xq_InvalidCommand_InvalidLimit : PySem.W.kitOne K (.ref x_InvalidCommand) (.ref x_InvalidLimit) = some false) (xq_InvalidLimit_InvalidLimit : PySem.W.kitOne K (.ref x_InvalidLimit) (.ref x_InvalidLimit) = some true) (xq_UnknownWord_InvalidLimit : PySem.W.kitOne K (.ref x_UnknownWord) (.ref x_InvalidLimit) = some false) (xq_NoAnswer_InvalidLimit : PySem.W.kitOne K (.ref x_NoAnswer) (.ref x_InvalidLimit) = some false) (xq_NoEdition_InvalidLimit : PySem.W.kitOne K (.ref x_NoEdition) (.ref x_InvalidLimit) = some false) (xq_NothingToUndo_InvalidLimit : PySem.W.kitOne K (.ref x_NothingToUndo) (.ref x_InvalidLimit) = some false) (xq_TooMany_InvalidLimit : PySem.W.kitOne K (.ref x_TooMany) (.ref x_InvalidLimit) = some false) (xq_InvalidTerm_InvalidPackage : PySem.W.kitOne K (.ref x_InvalidTerm) (.ref x_InvalidPackage) = some false) (xq_InvalidRule_InvalidPackage : PySem.W.kitOne K (.ref x_InvalidRule) (.ref x_InvalidPackage) = some false) (xq_InvalidFunction_InvalidPackage : PySem.W.kitOne K (.ref x_InvalidFunction) (.ref x_InvalidPackage) = some false) (xq_InvalidPackage_InvalidPackage : PySem.W.kitOne K (.ref x_InvalidPackage) (.ref x_InvalidPackage) = some true) (xq_NoHouse_InvalidPackage : PySem.W.kitOne K (.ref x_NoHouse) (.ref x_InvalidPackage) = some false) (xq_Refused_InvalidPackage : PySem.W.kitOne K (.ref x_Refused) (.ref x_InvalidPackage) = some false) (xq_NotNext_InvalidPackage : PySem.W.kitOne K (.ref x_NotNext) (.ref x_InvalidPackage) = some false) (xq_Mismatch_InvalidPackage : PySem.W.kitOne K (.ref x_Mismatch) (.ref x_InvalidPackage) = some false) (xq_BadPaper_InvalidPackage : PySem.W.kitOne K (.ref x_BadPaper) (.ref x_InvalidPackage) = some false) (xq_InvalidText_InvalidPackage : PySem.W.kitOne K (.ref x_InvalidText) (.ref x_InvalidPackage) = some false) (xq_InvalidCommand_InvalidPackage : PySem.W.kitOne K (.ref x_InvalidCommand) (.ref x_InvalidPackage) = some false) (xq_InvalidLimit_InvalidPackage : PySem.W.kitOne K (.ref x_InvalidLimit) (.ref x_InvalidPackage) = some false) (xq_UnknownWord_InvalidPackage : PySem.W.kitOne K (.ref x_UnknownWord) (.ref x_InvalidPackage) = some false) (xq_NoAnswer_InvalidPackage : PySem.W.kitOne K (.ref x_NoAnswer) (.ref x_InvalidPackage) = some false) (xq_NoEdition_InvalidPackage : PySem.W.kitOne K (.ref x_NoEdition) (.ref x_InvalidPackage) = some false) (xq_NothingToUndo_InvalidPackage : PySem.W.kitOne K (.ref x_NothingToUndo) (.ref x_InvalidPackage) = some false) (xq_TooMany_InvalidPackage : PySem.W.kitOne K (.ref x_TooMany) (.ref x_InvalidPackage) = some false) (xq_InvalidTerm_InvalidRule : PySem.W.kitOne K (.ref x_InvalidTerm) (.ref x_InvalidRule) = some false) (xq_InvalidRule_InvalidRule : PySem.W.kitOne K (.ref x_InvalidRule) (.ref x_InvalidRule) = some true) (xq_InvalidFunction_InvalidRule : PySem.W.kitOne K (.ref x_InvalidFunction) (.ref x_InvalidRule) = some false) (xq_InvalidPackage_InvalidRule : PySem.W.kitOne K (.ref x_InvalidPackage) (.ref x_InvalidRule) = some false) (xq_NoHouse_InvalidRule : PySem.W.kitOne K (.ref x_NoHouse) (.ref x_InvalidRule) = some false) (xq_Refused_InvalidRule : PySem.W.kitOne K (.ref x_Refused) (.ref x_InvalidRule) = some false) (xq_NotNext_InvalidRule : PySem.W.kitOne K (.ref x_NotNext) (.ref x_InvalidRule) = some false) (xq_Mismatch_InvalidRule : PySem.W.kitOne K (.ref x_Mismatch) (.ref x_InvalidRule) = some false) (xq_BadPaper_InvalidRule : PySem.W.kitOne K (.ref x_BadPaper) (.ref x_InvalidRule) = some false) (xq_InvalidText_InvalidRule : PySem.W.kitOne K (.ref x_InvalidText) (.ref x_InvalidRule) = some false) (xq_InvalidCommand_InvalidRule : PySem.W.kitOne K (.ref x_InvalidCommand) (.ref x_InvalidRule) = some false) (xq_InvalidLimit_InvalidRule : PySem.W.kitOne K (.ref x_InvalidLimit) (.ref x_InvalidRule) = some false) (xq_UnknownWord_InvalidRule : PySem.W.kitOne K (.ref x_UnknownWord) (.ref x_InvalidRule) = some false) (xq_NoAnswer_InvalidRule : PySem.W.kitOne K (.ref x_NoAnswer) (.ref x_InvalidRule) = some false) (xq_NoEdition_InvalidRule : PySem.W.kitOne K (.ref x_NoEdition) (.ref x_InvalidRule) = some false) (xq_NothingToUndo_InvalidRule : PySem.W.kitOne K (.ref x_NothingToUndo) (.ref x_InvalidRule) = some false) (xq_TooMany_InvalidRule : PySem.W.kitOne K (.ref x_TooMany) (.ref x_InvalidRule) = some false) (xq_InvalidTerm_InvalidTerm : PySem.W.kitOne K (.ref x_InvalidTerm) (.ref x_InvalidTerm) = some true) (xq_InvalidRule_InvalidTerm : PySem.W.kitOne K (.ref x_InvalidRule) (.ref x_InvalidTerm) = some false) (xq_InvalidFunction_InvalidTerm : PySem.W.kitOne K (.ref x_InvalidFunction) (.ref x_InvalidTerm) = some false) (xq_InvalidPackage_InvalidTerm : PySem.W.kitOne K (.ref x_InvalidPackage) (.ref x_InvalidTerm) = some false) (xq_NoHouse_InvalidTerm : PySem.W.kitOne K (.ref x_NoHouse) (.ref x_InvalidTerm) = some false) (xq_Refused_InvalidTerm : PySem.W.kitOne K (.ref x_Refused) (.ref x_InvalidTerm) = some false) (xq_NotNext_InvalidTerm : PySem.W.kitOne K (.ref x_NotNext) (.ref x_InvalidTerm) = some false) (xq_Mismatch_InvalidTerm : PySem.W.kitOne K (.ref x_Mismatch) (.ref x_InvalidTerm) = some false) (xq_BadPaper_InvalidTerm : PySem.W.kitOne K (.ref x_BadPaper) (.ref x_InvalidTerm) = some false) (xq_InvalidText_InvalidTerm : PySem.W.kitOne K (.ref x_InvalidText) (.ref x_InvalidTerm) = some false) (xq_InvalidCommand_InvalidTerm : PySem.W.kitOne K (.ref x_InvalidCommand) (.ref x_InvalidTerm) = some false) (xq_InvalidLimit_InvalidTerm : PySem.W.kitOne K (.ref x_InvalidLimit) (.ref x_InvalidTerm) = some false) (xq_UnknownWord_InvalidTerm : PySem.W.kitOne K (.ref x_UnknownWord) (.ref x_InvalidTerm) = some false) (xq_NoAnswer_InvalidTerm : PySem.W.kitOne K (.ref x_NoAnswer) (.ref x_InvalidTerm) = some false) (xq_NoEdition_InvalidTerm : PySem.W.kitOne K (.ref x_NoEdition) (.ref x_InvalidTerm) = some false) (xq_NothingToUndo_InvalidTerm : PySem.W.kitOne K (.ref x_NothingToUndo) (.ref x_InvalidTerm) = some false) (xq_TooMany_InvalidTerm : PySem.W.kitOne K (.ref x_TooMany) (.ref x_InvalidTerm) = some false) (xq_InvalidTerm_InvalidText : PySem.W.kitOne K (.ref x_InvalidTerm) (.ref x_InvalidText) = some false) (xq_InvalidRule_InvalidText : PySem.W.kitOne K (.ref x_InvalidRule) (.ref x_InvalidText) = some false) (xq_InvalidFunction_InvalidText : PySem.W.kitOne K (.ref x_InvalidFunction) (.ref x_InvalidText) = some false) (xq_InvalidPackage_InvalidText : PySem.W.kitOne K (.ref x_InvalidPackage) (.ref x_InvalidText) = some false) (xq_NoHouse_InvalidText : PySem.W.kitOne K (.ref x_NoHouse) (.ref x_InvalidText) = some false) (xq_Refused_InvalidText : PySem.W.kitOne K (.ref x_Refused) (.ref x_InvalidText) = some false) (xq_NotNext_InvalidText : PySem.W.kitOne K (.ref x_NotNext) (.ref x_InvalidText) = some false) (xq_Mismatch_InvalidText : PySem.W.kitOne K (.ref x_Mismatch) (.ref x_InvalidText) = some false) (xq_BadPaper_InvalidText : PySem.W.kitOne K (.ref x_BadPaper) (.ref x_InvalidText) = some false) (xq_InvalidText_InvalidText : PySem.W.kitOne K (.ref x_InvalidText) (.ref x_InvalidText) = some true) (xq_InvalidCommand_InvalidText : PySem.W.kitOne K (.ref x_InvalidCommand) (.ref x_InvalidText) = some false) (xq_InvalidLimit_InvalidText : PySem.W.kitOne K (.ref x_InvalidLimit) (.ref x_InvalidText) = some false) (xq_UnknownWord_InvalidText : PySem.W.kitOne K (.ref x_UnknownWord) (.ref x_InvalidText) = some false) (xq_NoAnswer_InvalidText : PySem.W.kitOne K (.ref x_NoAnswer) (.ref x_InvalidText) = some false) (xq_NoEdition_InvalidText : PySem.W.kitOne K (.ref x_NoEdition) (.ref x_InvalidText) = some false) (xq_NothingToUndo_InvalidText : PySem.W.kitOne K (.ref x_NothingToUndo) (.ref x_InvalidText) = some false) (xq_TooMany_InvalidText : PySem.W.kitOne K (.ref x_TooMany) (.ref x_InvalidText) = some false) (xq_InvalidTerm_Mismatch : PySem.W.kitOne K (.ref x_InvalidTerm) (.ref x_Mismatch) = some false) (xq_InvalidRule_Mismatch : PySem.W.kitOne K (.ref x_InvalidRule) (.ref x_Mismatch) = some false) (xq_InvalidFunction_Mismatch : PySem.W.kitOne K (.ref x_InvalidFunction) (.ref x_Mismatch) = some false) (xq_InvalidPackage_Mismatch : PySem.W.kitOne K (.ref x_InvalidPackage) (.ref x_Mismatch) = some false) (xq_NoHouse_Mismatch : PySem.W.kitOne K (.ref x_NoHouse) (.ref x_Mismatch) = some false) (xq_Refused_Mismatch : PySem.W.kitOne K (.ref x_Refused) (.ref x_Mismatch) = some false) (xq_NotNext_Mismatch : PySem.W.kitOne K (.ref x_NotNext) (.ref x_Mismatch) = some false) (xq_Mismatch_Mismatch : PySem.W.kitOne K (.ref x_Mismatch) (.ref x_Mismatch) = some true) (xq_BadPaper_Mismatch : PySem.W.kitOne K (.ref x_BadPaper) (.ref x_Mismatch) = some false) (xq_InvalidText_Mismatch : PySem.W.kitOne K (.ref x_InvalidText) (.ref x_Mismatch) = some false) (xq_InvalidCommand_Mismatch : PySem.W.kitOne K (.ref x_InvalidCommand) (.ref x_Mismatch) = some false) (xq_InvalidLimit_Mismatch : PySem.W.kitOne K (.ref x_InvalidLimit) (.ref x_Mismatch) = some false) (xq_UnknownWord_Mismatch : PySem.W.kitOne K (.ref x_UnknownWord) (.ref x_Mismatch) = some false) (xq_NoAnswer_Mismatch : PySem.W.kitOne K (.ref x_NoAnswer) (.ref x_Mismatch) = some false) (xq_NoEdition_Mismatch : PySem.W.kitOne K (.ref x_NoEdition) (.ref x_Mismatch) = some false) (xq_NothingToUndo_Mismatch : PySem.W.kitOne K (.ref x_NothingToUndo) (.ref x_Mismatch) = some false) (xq_TooMany_Mismatch : PySem.W.kitOne K (.ref x_TooMany) (.ref x_Mismatch) = some false) (xq_InvalidTerm_NeverError : PySem.W.kitOne K (.ref x_InvalidTerm) (.ref x_NeverError) = some true) (xq_InvalidRule_NeverError : PySem.W.kitOne K (.ref x_InvalidRule) (.ref x_NeverError) = some true) (xq_InvalidFunction_NeverError : PySem.W.kitOne K (.ref x_InvalidFunction) (.ref x_NeverError) = some true) (xq_InvalidPackage_NeverError : PySem.W.kitOne K (.ref x_InvalidPackage) (.ref x_NeverError) = some true) (xq_NoHouse_NeverError : PySem.W.kitOne K (.ref x_NoHouse) (.ref x_NeverError) = some true) (xq_Refused_NeverError : PySem.W.kitOne K (.ref x_Refused) (.ref x_NeverError) = some true) (xq_NotNext_NeverError : PySem.W.kitOne K (.ref x_NotNext) (.ref x_NeverError) = some true) (xq_Mismatch_NeverError : PySem.W.kitOne K (.ref x_Mismatch) (.ref x_NeverError) = some true) (xq_BadPaper_NeverError : PySem.W.kitOne K (.ref x_BadPaper) (.ref x_NeverError) = some true) (xq_InvalidText_NeverError : PySem.W.kitOne K (.ref x_InvalidText) (.ref x_NeverError) = some true) (xq_InvalidCommand_NeverError : PySem.W.kitOne K (.ref x_InvalidCommand) (.ref x_NeverError) = some true) (xq_InvalidLimit_NeverError : PySem.W.kitOne K (.ref x_InvalidLimit) (.ref x_NeverError) = some true) (xq_UnknownWord_NeverError : PySem.W.kitOne K (.ref x_UnknownWord) (.ref x_NeverError) = some false) (xq_NoAnswer_NeverError : PySem.W.kitOne K (.ref x_NoAnswer) (.ref x_NeverError) = some false) (xq_NoEdition_NeverError : PySem.W.kitOne K (.ref x_NoEdition) (.ref x_NeverError) = some false) (xq_NothingToUndo_NeverError : PySem.W.kitOne K (.ref x_NothingToUndo) (.ref x_NeverError) = some false) (xq_TooMany_NeverError : PySem.W.kitOne K (.ref x_TooMany) (.ref x_NeverError) = some false) (xq_InvalidTerm_NoAnswer : PySem.W.kitOne K (.ref x_InvalidTerm) (.ref x_NoAnswer) = some false) (xq_InvalidRule_NoAnswer : PySem.W.kitOne K (.ref x_InvalidRule) (.ref x_NoAnswer) = some false) (xq_InvalidFunction_NoAnswer : PySem.W.kitOne K (.ref x_InvalidFunction) (.ref x_NoAnswer) = some false) (xq_InvalidPackage_NoAnswer : PySem.W.kitOne K (.ref x_InvalidPackage) (.ref x_NoAnswer) = some false) (xq_NoHouse_NoAnswer : PySem.W.kitOne K (.ref x_NoHouse) (.ref x_NoAnswer) = some false) (xq_Refused_NoAnswer : PySem.W.kitOne K (.ref x_Refused) (.ref x_NoAnswer) = some false) (xq_NotNext_NoAnswer : PySem.W.kitOne K (.ref x_NotNext) (.ref x_NoAnswer) = some false) (xq_Mismatch_NoAnswer : PySem.W.kitOne K (.ref x_Mismatch) (.ref x_NoAnswer) = some false) (xq_BadPaper_NoAnswer : PySem.W.kitOne K (.ref x_BadPaper) (.ref x_NoAnswer) = some false) (xq_InvalidText_NoAnswer : PySem.W.kitOne K (.ref x_InvalidText) (.ref x_NoAnswer) = some false) (xq_InvalidCommand_NoAnswer : PySem.W.kitOne K (.ref x_InvalidCommand) (.ref x_NoAnswer) = some false) (xq_InvalidLimit_NoAnswer : PySem.W.kitOne K (.ref x_InvalidLimit) (.ref x_NoAnswer) = some false) (xq_UnknownWord_NoAnswer : PySem.W.kitOne K (.ref x_UnknownWord) (.ref x_NoAnswer) = some false) (xq_NoAnswer_NoAnswer : PySem.W.kitOne K (.ref x_NoAnswer) (.ref x_NoAnswer) = some true) (xq_NoEdition_NoAnswer : PySem.W.kitOne K (.ref x_NoEdition) (.ref x_NoAnswer) = some false) (xq_NothingToUndo_NoAnswer : PySem.W.kitOne K (.ref x_NothingToUndo) (.ref x_NoAnswer) = some false) (xq_TooMany_NoAnswer : PySem.W.kitOne K (.ref x_TooMany) (.ref x_NoAnswer) = some false) (xq_InvalidTerm_NoEdition : PySem.W.kitOne K (.ref x_InvalidTerm) (.ref x_NoEdition) = some false) (xq_InvalidRule_NoEdition : PySem.W.kitOne K (.ref x_InvalidRule) (.ref x_NoEdition) = some false) (xq_InvalidFunction_NoEdition : PySem.W.kitOne K (.ref x_InvalidFunction) (.ref x_NoEdition) = some false) (xq_InvalidPackage_NoEdition : PySem.W.kitOne K (.ref x_InvalidPackage) (.ref x_NoEdition) = some false) (xq_NoHouse_NoEdition : PySem.W.kitOne K (.ref x_NoHouse) (.ref x_NoEdition) = some false) (xq_Refused_NoEdition : PySem.W.kitOne K (.ref x_Refused) (.ref x_NoEdition) = some false) (xq_NotNext_NoEdition : PySem.W.kitOne K (.ref x_NotNext) (.ref x_NoEdition) = some false) (xq_Mismatch_NoEdition : PySem.W.kitOne K (.ref x_Mismatch) (.ref x_NoEdition) = some false) (xq_BadPaper_NoEdition : PySem.W.kitOne K (.ref x_BadPaper) (.ref x_NoEdition) = some false) (xq_InvalidText_NoEdition : PySem.W.kitOne K (.ref x_InvalidText) (.ref x_NoEdition) = some false) (xq_InvalidCommand_NoEdition : PySem.W.kitOne K (.ref x_InvalidCommand) (.ref x_NoEdition) = some false) (xq_InvalidLimit_NoEdition : PySem.W.kitOne K (.ref x_InvalidLimit) (.ref x_NoEdition) = some false) (xq_UnknownWord_NoEdition : PySem.W.kitOne K (.ref x_UnknownWord) (.ref x_NoEdition) = some false) (xq_NoAnswer_NoEdition : PySem.W.kitOne K (.ref x_NoAnswer) (.ref x_NoEdition) = some false) (xq_NoEdition_NoEdition : PySem.W.kitOne K (.ref x_NoEdition) (.ref x_NoEdition) = some true) (xq_NothingToUndo_NoEdition : PySem.W.kitOne K (.ref x_NothingToUndo) (.ref x_NoEdition) = some false) (xq_TooMany_NoEdition : PySem.W.kitOne K (.ref x_TooMany) (.ref x_NoEdition) = some false) (xq_InvalidTerm_NoHouse : PySem.W.kitOne K (.ref x_InvalidTerm) (.ref x_NoHouse) = some false) (xq_InvalidRule_NoHouse : PySem.W.kitOne K (.ref x_InvalidRule) (.ref x_NoHouse) = some false) (xq_InvalidFunction_NoHouse : PySem.W.kitOne K (.ref x_InvalidFunction) (.ref x_NoHouse) = some false) (xq_InvalidPackage_NoHouse : PySem.W.kitOne K (.ref x_InvalidPackage) (.ref x_NoHouse) = some false) (xq_NoHouse_NoHouse : PySem.W.kitOne K (.ref x_NoHouse) (.ref x_NoHouse) = some true) (xq_Refused_NoHouse : PySem.W.kitOne K (.ref x_Refused) (.ref x_NoHouse) = some false) (xq_NotNext_NoHouse : PySem.W.kitOne K (.ref x_NotNext) (.ref x_NoHouse) = some false) (xq_Mismatch_NoHouse : PySem.W.kitOne K (.ref x_Mismatch) (.ref x_NoHouse) = some false) (xq_BadPaper_NoHouse : PySem.W.kitOne K (.ref x_BadPaper) (.ref x_NoHouse) = some false) (xq_InvalidText_NoHouse : PySem.W.kitOne K (.ref x_InvalidText) (.ref x_NoHouse) = some false) (xq_InvalidCommand_NoHouse : PySem.W.kitOne K (.ref x_InvalidCommand) (.ref x_NoHouse) = some false) (xq_InvalidLimit_NoHouse : PySem.W.kitOne K (.ref x_InvalidLimit) (.ref x_NoHouse) = some false) (xq_UnknownWord_NoHouse : PySem.W.kitOne K (.ref x_UnknownWord) (.ref x_NoHouse) = some false) (xq_NoAnswer_NoHouse : PySem.W.kitOne K (.ref x_NoAnswer) (.ref x_NoHouse) = some false) (xq_NoEdition_NoHouse : PySem.W.kitOne K (.ref x_NoEdition) (.ref x_NoHouse) = some false) (xq_NothingToUndo_NoHouse : PySem.W.kitOne K (.ref x_NothingToUndo) (.ref x_NoHouse) = some false) (xq_TooMany_NoHouse : PySem.W.kitOne K (.ref x_TooMany) (.ref x_NoHouse) = some false) (xq_InvalidTerm_NotNext : PySem.W.kitOne K (.ref x_InvalidTerm) (.ref x_NotNext) = some false) (xq_InvalidRule_NotNext : PySem.W.kitOne K (.ref x_InvalidRule) (.ref x_NotNext) = some false) (xq_InvalidFunction_NotNext : PySem.W.kitOne K (.ref x_InvalidFunction) (.ref x_NotNext) = some false) (xq_InvalidPackage_NotNext : PySem.W.kitOne K (.ref x_InvalidPackage) (.ref x_NotNext) = some false) (xq_NoHouse_NotNext : PySem.W.kitOne K (.ref x_NoHouse) (.ref x_NotNext) = some false) (xq_Refused_NotNext : PySem.W.kitOne K (.ref x_Refused) (.ref x_NotNext) = some false) (xq_NotNext_NotNext : PySem.W.kitOne K (.ref x_NotNext) (.ref x_NotNext) = some true) (xq_Mismatch_NotNext : PySem.W.kitOne K (.ref x_Mismatch) (.ref x_NotNext) = some false) (xq_BadPaper_NotNext : PySem.W.kitOne K (.ref x_BadPaper) (.ref x_NotNext) = some false) (xq_InvalidText_NotNext : PySem.W.kitOne K (.ref x_InvalidText) (.ref x_NotNext) = some false) (xq_InvalidCommand_NotNext : PySem.W.kitOne K (.ref x_InvalidCommand) (.ref x_NotNext) = some false) (xq_InvalidLimit_NotNext : PySem.W.kitOne K (.ref x_InvalidLimit) (.ref x_NotNext) = some false) (xq_UnknownWord_NotNext : PySem.W.kitOne K (.ref x_UnknownWord) (.ref x_NotNext) = some false) (xq_NoAnswer_NotNext : PySem.W.kitOne K (.ref x_NoAnswer) (.ref x_NotNext) = some false) (xq_NoEdition_NotNext : PySem.W.kitOne K (.ref x_NoEdition) (.ref x_NotNext) = some false) (xq_NothingToUndo_NotNext : PySem.W.kitOne K (.ref x_NothingToUndo) (.ref x_NotNext) = some false) (xq_TooMany_NotNext : PySem.W.kitOne K (.ref x_TooMany) (.ref x_NotNext) = some false) (xq_InvalidTerm_NothingToUndo : PySem.W.kitOne K (.ref x_InvalidTerm) (.ref x_NothingToUndo) = some false) (xq_InvalidRule_NothingToUndo : PySem.W.kitOne K (.ref x_InvalidRule) (.ref x_NothingToUndo) = some false) (xq_InvalidFunction_NothingToUndo : PySem.W.kitOne K (.ref x_InvalidFunction) (.ref x_NothingToUndo) = some false) (xq_InvalidPackage_NothingToUndo : PySem.W.kitOne K (.ref x_InvalidPackage) (.ref x_NothingToUndo) = some false) (xq_NoHouse_NothingToUndo : PySem.W.kitOne K (.ref x_NoHouse) (.ref x_NothingToUndo) = some false) (xq_Refused_NothingToUndo : PySem.W.kitOne K (.ref x_Refused) (.ref x_NothingToUndo) = some false) (xq_NotNext_NothingToUndo : PySem.W.kitOne K (.ref x_NotNext) (.ref x_NothingToUndo) = some false) (xq_Mismatch_NothingToUndo : PySem.W.kitOne K (.ref x_Mismatch) (.ref x_NothingToUndo) = some false) (xq_BadPaper_NothingToUndo : PySem.W.kitOne K (.ref x_BadPaper) (.ref x_NothingToUndo) = some false) (xq_InvalidText_NothingToUndo : PySem.W.kitOne K (.ref x_InvalidText) (.ref x_NothingToUndo) = some false) (xq_InvalidCommand_NothingToUndo : PySem.W.kitOne K (.ref x_InvalidCommand) (.ref x_NothingToUndo) = some false) (xq_InvalidLimit_NothingToUndo : PySem.W.kitOne K (.ref x_InvalidLimit) (.ref x_NothingToUndo) = some false) (xq_UnknownWord_NothingToUndo : PySem.W.kitOne K (.ref x_UnknownWord) (.ref x_NothingToUndo) = some false) (xq_NoAnswer_NothingToUndo : PySem.W.kitOne K (.ref x_NoAnswer) (.ref x_NothingToUndo) = some false) (xq_NoEdition_NothingToUndo : PySem.W.kitOne K (.ref x_NoEdition) (.ref x_NothingToUndo) = some false) (xq_NothingToUndo_NothingToUndo : PySem.W.kitOne K (.ref x_NothingToUndo) (.ref x_NothingToUndo) = some true) (xq_TooMany_NothingToUndo : PySem.W.kitOne K (.ref x_TooMany) (.ref x_NothingToUndo) = some false) (xq_InvalidTerm_Refused : PySem.W.kitOne K (.ref x_InvalidTerm) (.ref x_Refused) = some false) (xq_InvalidRule_Refused : PySem.W.kitOne K (.ref x_InvalidRule) (.ref x_Refused) = some false) (xq_InvalidFunction_Refused : PySem.W.kitOne K (.ref x_InvalidFunction) (.ref x_Refused) = some false) (xq_InvalidPackage_Refused : PySem.W.kitOne K (.ref x_InvalidPackage) (.ref x_Refused) = some false) (xq_NoHouse_Refused : PySem.W.kitOne K (.ref x_NoHouse) (.ref x_Refused) = some false) (xq_Refused_Refused : PySem.W.kitOne K (.ref x_Refused) (.ref x_Refused) = some true) (xq_NotNext_Refused : PySem.W.kitOne K (.ref x_NotNext) (.ref x_Refused) = some false) (xq_Mismatch_Refused : PySem.W.kitOne K (.ref x_Mismatch) (.ref x_Refused) = some false) (xq_BadPaper_Refused : PySem.W.kitOne K (.ref x_BadPaper) (.ref x_Refused) = some false) (xq_InvalidText_Refused : PySem.W.kitOne K (.ref x_InvalidText) (.ref x_Refused) = some false) (xq_InvalidCommand_Refused : PySem.W.kitOne K (.ref x_InvalidCommand) (.ref x_Refused) = some false) (xq_InvalidLimit_Refused : PySem.W.kitOne K (.ref x_InvalidLimit) (.ref x_Refused) = some false) (xq_UnknownWord_Refused : PySem.W.kitOne K (.ref x_UnknownWord) (.ref x_Refused) = some false) (xq_NoAnswer_Refused : PySem.W.kitOne K (.ref x_NoAnswer) (.ref x_Refused) = some false) (xq_NoEdition_Refused : PySem.W.kitOne K (.ref x_NoEdition) (.ref x_Refused) = some false) (xq_NothingToUndo_Refused : PySem.W.kitOne K (.ref x_NothingToUndo) (.ref x_Refused) = some false) (xq_TooMany_Refused : PySem.W.kitOne K (.ref x_TooMany) (.ref x_Refused) = some false) (xq_InvalidTerm_TooMany : PySem.W.kitOne K (.ref x_InvalidTerm) (.ref x_TooMany) = some false) (xq_InvalidRule_TooMany : PySem.W.kitOne K (.ref x_InvalidRule) (.ref x_TooMany) = some false) (xq_InvalidFunction_TooMany : PySem.W.kitOne K (.ref x_InvalidFunction) (.ref x_TooMany) = some false) (xq_InvalidPackage_TooMany : PySem.W.kitOne K (.ref x_InvalidPackage) (.ref x_TooMany) = some false) (xq_NoHouse_TooMany : PySem.W.kitOne K (.ref x_NoHouse) (.ref x_TooMany) = some false) (xq_Refused_TooMany : PySem.W.kitOne K (.ref x_Refused) (.ref x_TooMany) = some false) (xq_NotNext_TooMany : PySem.W.kitOne K (.ref x_NotNext) (.ref x_TooMany) = some false) (xq_Mismatch_TooMany : PySem.W.kitOne K (.ref x_Mismatch) (.ref x_TooMany) = some false) (xq_BadPaper_TooMany : PySem.W.kitOne K (.ref x_BadPaper) (.ref x_TooMany) = some false) (xq_InvalidText_TooMany : PySem.W.kitOne K (.ref x_InvalidText) (.ref x_TooMany) = some false) (xq_InvalidCommand_TooMany : PySem.W.kitOne K (.ref x_InvalidCommand) (.ref x_TooMany) = some false) (xq_InvalidLimit_TooMany : PySem.W.kitOne K (.ref x_InvalidLimit) (.ref x_TooMany) = some false) (xq_UnknownWord_TooMany : PySem.W.kitOne K (.ref x_UnknownWord) (.ref x_TooMany) = some false) (xq_NoAnswer_TooMany : PySem.W.kitOne K (.ref x_NoAnswer) (.ref x_TooMany) = some false) (xq_NoEdition_TooMany : PySem.W.kitOne K (.ref x_NoEdition) (.ref x_TooMany) = some false) (xq_NothingToUndo_TooMany : PySem.W.kitOne K (.ref x_NothingToUndo) (.ref x_TooMany) = some false) (xq_TooMany_TooMany : PySem.W.kitOne K (.ref x_TooMany) (.ref x_TooMany) = some true) (xq_InvalidTerm_UnknownWord : PySem.W.kitOne K (.ref x_InvalidTerm) (.ref x_UnknownWord) = some false) (xq_InvalidRule_UnknownWord : PySem.W.kitOne K (.ref x_InvalidRule) (.ref x_UnknownWord) = some false) (xq_InvalidFunction_UnknownWord : PySem.W.kitOne K (.ref x_InvalidFunction) (.ref x_UnknownWord) = some false) (xq_InvalidPackage_UnknownWord : PySem.W.kitOne K (.ref x_InvalidPackage) (.ref x_UnknownWord) = some false) (xq_NoHouse_UnknownWord : PySem.W.kitOne K (.ref x_NoHouse) (.ref x_UnknownWord) = some false) (xq_Refused_UnknownWord : PySem.W.kitOne K (.ref x_Refused) (.ref x_UnknownWord) = some false) (xq_NotNext_UnknownWord : PySem.W.kitOne K (.ref x_NotNext) (.ref x_UnknownWord) = some false) (xq_Mismatch_UnknownWord : PySem.W.kitOne K (.ref x_Mismatch) (.ref x_UnknownWord) = some false) (xq_BadPaper_UnknownWord : PySem.W.kitOne K (.ref x_BadPaper) (.ref x_UnknownWord) = some false) (xq_InvalidText_UnknownWord : PySem.W.kitOne K (.ref x_InvalidText) (.ref x_UnknownWord) = some false) (xq_InvalidCommand_UnknownWord : PySem.W.kitOne K (.ref x_InvalidCommand) (.ref x_UnknownWord) = some false) (xq_InvalidLimit_UnknownWord : PySem.W.kitOne K (.ref x_InvalidLimit) (.ref x_UnknownWord) = some false) (xq_UnknownWord_UnknownWord : PySem.W.kitOne K (.ref x_UnknownWord) (.ref x_UnknownWord) = some true) (xq_NoAnswer_UnknownWord : PySem.W.kitOne K (.ref x_NoAnswer) (.ref x_UnknownWord) = some false) (xq_NoEdition_UnknownWord : PySem.W.kitOne K (.ref x_NoEdition) (.ref x_UnknownWord) = some false) (xq_NothingToUndo_UnknownWord : PySem.W.kitOne K (.ref x_NothingToUndo) (.ref x_UnknownWord) = some false) (xq_TooMany_UnknownWord : PySem.W.kitOne K (.ref x_TooMany) (.ref x_UnknownWord) = some false) (xq_InvalidTerm_KeyError : PySem.W.kitOne K (.ref x_InvalidTerm) (.type "KeyError") = some false) (xq_InvalidRule_KeyError : PySem.W.kitOne K (.ref x_InvalidRule) (.type "KeyError") = some false) (xq_InvalidFunction_KeyError : PySem.W.kitOne K (.ref x_InvalidFunction) (.type "KeyError") = some false) (xq_InvalidPackage_KeyError : PySem.W.kitOne K (.ref x_InvalidPackage) (.type "KeyError") = some false) (xq_NoHouse_KeyError : PySem.W.kitOne K (.ref x_NoHouse) (.type "KeyError") = some false) (xq_Refused_KeyError : PySem.W.kitOne K (.ref x_Refused) (.type "KeyError") = some false) (xq_NotNext_KeyError : PySem.W.kitOne K (.ref x_NotNext) (.type "KeyError") = some false) (xq_Mismatch_KeyError : PySem.W.kitOne K (.ref x_Mismatch) (.type "KeyError") = some false) (xq_BadPaper_KeyError : PySem.W.kitOne K (.ref x_BadPaper) (.type "KeyError") = some false) (xq_InvalidText_KeyError : PySem.W.kitOne K (.ref x_InvalidText) (.type "KeyError") = some false) (xq_InvalidCommand_KeyError : PySem.W.kitOne K (.ref x_InvalidCommand) (.type "KeyError") = some false) (xq_InvalidLimit_KeyError : PySem.W.kitOne K (.ref x_InvalidLimit) (.type "KeyError") = some false) (xq_UnknownWord_KeyError : PySem.W.kitOne K (.ref x_UnknownWord) (.type "KeyError") = some true) (xq_NoAnswer_KeyError : PySem.W.kitOne K (.ref x_NoAnswer) (.type "KeyError") = some true) (xq_NoEdition_KeyError : PySem.W.kitOne K (.ref x_NoEdition) (.type "KeyError") = some true) (xq_NothingToUndo_KeyError : PySem.W.kitOne K (.ref x_NothingToUndo) (.type "KeyError") = some false) (xq_TooMany_KeyError : PySem.W.kitOne K (.ref x_TooMany) (.type "KeyError") = some false) (xq_InvalidTerm_LookupError : PySem.W.kitOne K (.ref x_InvalidTerm) (.type "LookupError") = some false) (xq_InvalidRule_LookupError : PySem.W.kitOne K (.ref x_InvalidRule) (.type "LookupError") = some false) (xq_InvalidFunction_LookupError : PySem.W.kitOne K (.ref x_InvalidFunction) (.type "LookupError") = some false) (xq_InvalidPackage_LookupError : PySem.W.kitOne K (.ref x_InvalidPackage) (.type "LookupError") = some false) (xq_NoHouse_LookupError : PySem.W.kitOne K (.ref x_NoHouse) (.type "LookupError") = some false) (xq_Refused_LookupError : PySem.W.kitOne K (.ref x_Refused) (.type "LookupError") = some false) (xq_NotNext_LookupError : PySem.W.kitOne K (.ref x_NotNext) (.type "LookupError") = some false) (xq_Mismatch_LookupError : PySem.W.kitOne K (.ref x_Mismatch) (.type "LookupError") = some false) (xq_BadPaper_LookupError : PySem.W.kitOne K (.ref x_BadPaper) (.type "LookupError") = some false) (xq_InvalidText_LookupError : PySem.W.kitOne K (.ref x_InvalidText) (.type "LookupError") = some false) (xq_InvalidCommand_LookupError : PySem.W.kitOne K (.ref x_InvalidCommand) (.type "LookupError") = some false) (xq_InvalidLimit_LookupError : PySem.W.kitOne K (.ref x_InvalidLimit) (.type "LookupError") = some false) (xq_UnknownWord_LookupError : PySem.W.kitOne K (.ref x_UnknownWord) (.type "LookupError") = some true) (xq_NoAnswer_LookupError : PySem.W.kitOne K (.ref x_NoAnswer) (.type "LookupError") = some true) (xq_NoEdition_LookupError : PySem.W.kitOne K (.ref x_NoEdition) (.type "LookupError") = some true) (xq_NothingToUndo_LookupError : PySem.W.kitOne K (.ref x_NothingToUndo) (.type "LookupError") = some true) (xq_TooMany_LookupError : PySem.W.kitOne K (.ref x_TooMany) (.type "LookupError") = some false) (xq_InvalidTerm_OverflowError : PySem.W.kitOne K (.ref x_InvalidTerm) (.type "OverflowError") = some false) (xq_InvalidRule_OverflowError : PySem.W.kitOne K (.ref x_InvalidRule) (.type "OverflowError") = some false) (xq_InvalidFunction_OverflowError : PySem.W.kitOne K (.ref x_InvalidFunction) (.type "OverflowError") = some false) (xq_InvalidPackage_OverflowError : PySem.W.kitOne K (.ref x_InvalidPackage) (.type "OverflowError") = some false) (xq_NoHouse_OverflowError : PySem.W.kitOne K (.ref x_NoHouse) (.type "OverflowError") = some false) (xq_Refused_OverflowError : PySem.W.kitOne K (.ref x_Refused) (.type "OverflowError") = some false) (xq_NotNext_OverflowError : PySem.W.kitOne K (.ref x_NotNext) (.type "OverflowError") = some false) (xq_Mismatch_OverflowError : PySem.W.kitOne K (.ref x_Mismatch) (.type "OverflowError") = some false) (xq_BadPaper_OverflowError : PySem.W.kitOne K (.ref x_BadPaper) (.type "OverflowError") = some false) (xq_InvalidText_OverflowError : PySem.W.kitOne K (.ref x_InvalidText) (.type "OverflowError") = some false) (xq_InvalidCommand_OverflowError : PySem.W.kitOne K (.ref x_InvalidCommand) (.type "OverflowError") = some false) (xq_InvalidLimit_OverflowError : PySem.W.kitOne K (.ref x_InvalidLimit) (.type "OverflowError") = some false) (xq_UnknownWord_OverflowError : PySem.W.kitOne K (.ref x_UnknownWord) (.type "OverflowError") = some false) (xq_NoAnswer_OverflowError : PySem.W.kitOne K (.ref x_NoAnswer) (.type "OverflowError") = some false) (xq_NoEdition_OverflowError : PySem.W.kitOne K (.ref x_NoEdition) (.type "OverflowError") = some false) (xq_NothingToUndo_OverflowError : PySem.W.kitOne K (.ref x_NothingToUndo) (.type "OverflowError") = some false) (xq_TooMany_OverflowError : PySem.W.kitOne K (.ref x_TooMany) (.type "OverflowError") = some true) (xq_InvalidTerm_ValueError : PySem.W.kitOne K (.ref x_InvalidTerm) (.type "ValueError") = some true) (xq_InvalidRule_ValueError : PySem.W.kitOne K (.ref x_InvalidRule) (.type "ValueError") = some true) (xq_InvalidFunction_ValueError : PySem.W.kitOne K (.ref x_InvalidFunction) (.type "ValueError") = some true) (xq_InvalidPackage_ValueError : PySem.W.kitOne K (.ref x_InvalidPackage) (.type "ValueError") = some true) (xq_NoHouse_ValueError : PySem.W.kitOne K (.ref x_NoHouse) (.type "ValueError") = some true) (xq_Refused_ValueError : PySem.W.kitOne K (.ref x_Refused) (.type "ValueError") = some true) (xq_NotNext_ValueError : PySem.W.kitOne K (.ref x_NotNext) (.type "ValueError") = some true) (xq_Mismatch_ValueError : PySem.W.kitOne K (.ref x_Mismatch) (.type "ValueError") = some true) (xq_BadPaper_ValueError : PySem.W.kitOne K (.ref x_BadPaper) (.type "ValueError") = some true) (xq_InvalidText_ValueError : PySem.W.kitOne K (.ref x_InvalidText) (.type "ValueError") = some true) (xq_InvalidCommand_ValueError : PySem.W.kitOne K (.ref x_InvalidCommand) (.type "ValueError") = some true) (xq_InvalidLimit_ValueError : PySem.W.kitOne K (.ref x_InvalidLimit) (.type "ValueError") = some true) (xq_UnknownWord_ValueError : PySem.W.kitOne K (.ref x_UnknownWord) (.type "ValueError") = some false) (xq_NoAnswer_ValueError : PySem.W.kitOne K (.ref x_NoAnswer) (.type "ValueError") = some false) (xq_NoEdition_ValueError : PySem.W.kitOne K (.ref x_NoEdition) (.type "ValueError") = some false) (xq_NothingToUndo_ValueError : PySem.W.kitOne K (.ref x_NothingToUndo) (.type "ValueError") = some false) (xq_TooMany_ValueError : PySem.W.kitOne K (.ref x_TooMany) (.type "ValueError") = some false) :
    ∃ fd : FuncData, (∀ (s : Shared) (u : Value), BindsTo s fd ⟨[u], []⟩ [("_law_script", u)]) ∧ ∀ base : Heap, K.In base → base.Ns mainGlobals mg → SysB base → FnG P w K mg base 5 fa fd ["_law_script"] (toSp ⟨K, (clOf ["NeverError", "InvalidTerm", "InvalidRule", "InvalidFunction", "InvalidPackage", "NoHouse", "Refused", "NotNext", "Mismatch", "BadPaper", "InvalidText", "InvalidCommand", "InvalidLimit", "UnknownWord", "NoAnswer", "NoEdition", "NothingToUndo", "TooMany"] mg)⟩ 1 g_law) := by
  have n_NeverError := PySem.W.mg_of X G nX_NeverError
  have e_NeverError : (clOf ["NeverError", "InvalidTerm", "InvalidRule", "InvalidFunction", "InvalidPackage", "NoHouse", "Refused", "NotNext", "Mismatch", "BadPaper", "InvalidText", "InvalidCommand", "InvalidLimit", "UnknownWord", "NoAnswer", "NoEdition", "NothingToUndo", "TooMany"] mg) 0 = x_NeverError := clOf_at rfl n_NeverError
  have n_InvalidTerm := PySem.W.mg_of X G nX_InvalidTerm
  have e_InvalidTerm : (clOf ["NeverError", "InvalidTerm", "InvalidRule", "InvalidFunction", "InvalidPackage", "NoHouse", "Refused", "NotNext", "Mismatch", "BadPaper", "InvalidText", "InvalidCommand", "InvalidLimit", "UnknownWord", "NoAnswer", "NoEdition", "NothingToUndo", "TooMany"] mg) 1 = x_InvalidTerm := clOf_at rfl n_InvalidTerm
  have n_InvalidRule := PySem.W.mg_of X G nX_InvalidRule
  have e_InvalidRule : (clOf ["NeverError", "InvalidTerm", "InvalidRule", "InvalidFunction", "InvalidPackage", "NoHouse", "Refused", "NotNext", "Mismatch", "BadPaper", "InvalidText", "InvalidCommand", "InvalidLimit", "UnknownWord", "NoAnswer", "NoEdition", "NothingToUndo", "TooMany"] mg) 2 = x_InvalidRule := clOf_at rfl n_InvalidRule
  have n_InvalidFunction := PySem.W.mg_of X G nX_InvalidFunction
  have e_InvalidFunction : (clOf ["NeverError", "InvalidTerm", "InvalidRule", "InvalidFunction", "InvalidPackage", "NoHouse", "Refused", "NotNext", "Mismatch", "BadPaper", "InvalidText", "InvalidCommand", "InvalidLimit", "UnknownWord", "NoAnswer", "NoEdition", "NothingToUndo", "TooMany"] mg) 3 = x_InvalidFunction := clOf_at rfl n_InvalidFunction
  have n_InvalidPackage := PySem.W.mg_of X G nX_InvalidPackage
  have e_InvalidPackage : (clOf ["NeverError", "InvalidTerm", "InvalidRule", "InvalidFunction", "InvalidPackage", "NoHouse", "Refused", "NotNext", "Mismatch", "BadPaper", "InvalidText", "InvalidCommand", "InvalidLimit", "UnknownWord", "NoAnswer", "NoEdition", "NothingToUndo", "TooMany"] mg) 4 = x_InvalidPackage := clOf_at rfl n_InvalidPackage
  have n_NoHouse := PySem.W.mg_of X G nX_NoHouse
  have e_NoHouse : (clOf ["NeverError", "InvalidTerm", "InvalidRule", "InvalidFunction", "InvalidPackage", "NoHouse", "Refused", "NotNext", "Mismatch", "BadPaper", "InvalidText", "InvalidCommand", "InvalidLimit", "UnknownWord", "NoAnswer", "NoEdition", "NothingToUndo", "TooMany"] mg) 5 = x_NoHouse := clOf_at rfl n_NoHouse
  have n_Refused := PySem.W.mg_of X G nX_Refused
  have e_Refused : (clOf ["NeverError", "InvalidTerm", "InvalidRule", "InvalidFunction", "InvalidPackage", "NoHouse", "Refused", "NotNext", "Mismatch", "BadPaper", "InvalidText", "InvalidCommand", "InvalidLimit", "UnknownWord", "NoAnswer", "NoEdition", "NothingToUndo", "TooMany"] mg) 6 = x_Refused := clOf_at rfl n_Refused
  have n_NotNext := PySem.W.mg_of X G nX_NotNext
  have e_NotNext : (clOf ["NeverError", "InvalidTerm", "InvalidRule", "InvalidFunction", "InvalidPackage", "NoHouse", "Refused", "NotNext", "Mismatch", "BadPaper", "InvalidText", "InvalidCommand", "InvalidLimit", "UnknownWord", "NoAnswer", "NoEdition", "NothingToUndo", "TooMany"] mg) 7 = x_NotNext := clOf_at rfl n_NotNext
  have n_Mismatch := PySem.W.mg_of X G nX_Mismatch
  have e_Mismatch : (clOf ["NeverError", "InvalidTerm", "InvalidRule", "InvalidFunction", "InvalidPackage", "NoHouse", "Refused", "NotNext", "Mismatch", "BadPaper", "InvalidText", "InvalidCommand", "InvalidLimit", "UnknownWord", "NoAnswer", "NoEdition", "NothingToUndo", "TooMany"] mg) 8 = x_Mismatch := clOf_at rfl n_Mismatch
  have n_BadPaper := PySem.W.mg_of X G nX_BadPaper
  have e_BadPaper : (clOf ["NeverError", "InvalidTerm", "InvalidRule", "InvalidFunction", "InvalidPackage", "NoHouse", "Refused", "NotNext", "Mismatch", "BadPaper", "InvalidText", "InvalidCommand", "InvalidLimit", "UnknownWord", "NoAnswer", "NoEdition", "NothingToUndo", "TooMany"] mg) 9 = x_BadPaper := clOf_at rfl n_BadPaper
  have n_InvalidText := PySem.W.mg_of X G nX_InvalidText
  have e_InvalidText : (clOf ["NeverError", "InvalidTerm", "InvalidRule", "InvalidFunction", "InvalidPackage", "NoHouse", "Refused", "NotNext", "Mismatch", "BadPaper", "InvalidText", "InvalidCommand", "InvalidLimit", "UnknownWord", "NoAnswer", "NoEdition", "NothingToUndo", "TooMany"] mg) 10 = x_InvalidText := clOf_at rfl n_InvalidText
  have n_InvalidCommand := PySem.W.mg_of X G nX_InvalidCommand
  have e_InvalidCommand : (clOf ["NeverError", "InvalidTerm", "InvalidRule", "InvalidFunction", "InvalidPackage", "NoHouse", "Refused", "NotNext", "Mismatch", "BadPaper", "InvalidText", "InvalidCommand", "InvalidLimit", "UnknownWord", "NoAnswer", "NoEdition", "NothingToUndo", "TooMany"] mg) 11 = x_InvalidCommand := clOf_at rfl n_InvalidCommand
  have n_InvalidLimit := PySem.W.mg_of X G nX_InvalidLimit
  have e_InvalidLimit : (clOf ["NeverError", "InvalidTerm", "InvalidRule", "InvalidFunction", "InvalidPackage", "NoHouse", "Refused", "NotNext", "Mismatch", "BadPaper", "InvalidText", "InvalidCommand", "InvalidLimit", "UnknownWord", "NoAnswer", "NoEdition", "NothingToUndo", "TooMany"] mg) 12 = x_InvalidLimit := clOf_at rfl n_InvalidLimit
  have n_UnknownWord := PySem.W.mg_of X G nX_UnknownWord
  have e_UnknownWord : (clOf ["NeverError", "InvalidTerm", "InvalidRule", "InvalidFunction", "InvalidPackage", "NoHouse", "Refused", "NotNext", "Mismatch", "BadPaper", "InvalidText", "InvalidCommand", "InvalidLimit", "UnknownWord", "NoAnswer", "NoEdition", "NothingToUndo", "TooMany"] mg) 13 = x_UnknownWord := clOf_at rfl n_UnknownWord
  have n_NoAnswer := PySem.W.mg_of X G nX_NoAnswer
  have e_NoAnswer : (clOf ["NeverError", "InvalidTerm", "InvalidRule", "InvalidFunction", "InvalidPackage", "NoHouse", "Refused", "NotNext", "Mismatch", "BadPaper", "InvalidText", "InvalidCommand", "InvalidLimit", "UnknownWord", "NoAnswer", "NoEdition", "NothingToUndo", "TooMany"] mg) 14 = x_NoAnswer := clOf_at rfl n_NoAnswer
  have n_NoEdition := PySem.W.mg_of X G nX_NoEdition
  have e_NoEdition : (clOf ["NeverError", "InvalidTerm", "InvalidRule", "InvalidFunction", "InvalidPackage", "NoHouse", "Refused", "NotNext", "Mismatch", "BadPaper", "InvalidText", "InvalidCommand", "InvalidLimit", "UnknownWord", "NoAnswer", "NoEdition", "NothingToUndo", "TooMany"] mg) 15 = x_NoEdition := clOf_at rfl n_NoEdition
  have n_NothingToUndo := PySem.W.mg_of X G nX_NothingToUndo
  have e_NothingToUndo : (clOf ["NeverError", "InvalidTerm", "InvalidRule", "InvalidFunction", "InvalidPackage", "NoHouse", "Refused", "NotNext", "Mismatch", "BadPaper", "InvalidText", "InvalidCommand", "InvalidLimit", "UnknownWord", "NoAnswer", "NoEdition", "NothingToUndo", "TooMany"] mg) 16 = x_NothingToUndo := clOf_at rfl n_NothingToUndo
  have n_TooMany := PySem.W.mg_of X G nX_TooMany
  have e_TooMany : (clOf ["NeverError", "InvalidTerm", "InvalidRule", "InvalidFunction", "InvalidPackage", "NoHouse", "Refused", "NotNext", "Mismatch", "BadPaper", "InvalidText", "InvalidCommand", "InvalidLimit", "UnknownWord", "NoAnswer", "NoEdition", "NothingToUndo", "TooMany"] mg) 17 = x_TooMany := clOf_at rfl n_TooMany
  generalize hcl : (clOf ["NeverError", "InvalidTerm", "InvalidRule", "InvalidFunction", "InvalidPackage", "NoHouse", "Refused", "NotNext", "Mismatch", "BadPaper", "InvalidText", "InvalidCommand", "InvalidLimit", "UnknownWord", "NoAnswer", "NoEdition", "NothingToUndo", "TooMany"] mg) = cl at *
  subst e_NeverError
  subst e_InvalidTerm
  subst e_InvalidRule
  subst e_InvalidFunction
  subst e_InvalidPackage
  subst e_NoHouse
  subst e_Refused
  subst e_NotNext
  subst e_Mismatch
  subst e_BadPaper
  subst e_InvalidText
  subst e_InvalidCommand
  subst e_InvalidLimit
  subst e_UnknownWord
  subst e_NoAnswer
  subst e_NoEdition
  subst e_NothingToUndo
  subst e_TooMany
  have T : Glo w K mg cl := ⟨PySem.W.mg_none_of X G z_KeyError, PySem.W.mg_none_of X G z_LookupError, PySem.W.mg_none_of X G z_OverflowError, PySem.W.mg_none_of X G z_ValueError, PySem.W.mg_none_of X G z_abs, PySem.W.mg_none_of X G z_all, PySem.W.mg_none_of X G z_int, PySem.W.mg_none_of X G z_isinstance, PySem.W.mg_none_of X G z_len, PySem.W.mg_none_of X G z_list, PySem.W.mg_none_of X G z_range, PySem.W.mg_none_of X G z_repr, PySem.W.mg_none_of X G z_str, K_BARRED.con X G, K_CAPITALS.con X G, K_FIGURES.con X G, K_LETTERS.con X G, K_LONGEST_NAME.con X G, K_MOST_FIGURES.con X G, n_NeverError, n_InvalidTerm, n_InvalidRule, n_InvalidFunction, n_InvalidPackage, n_NoHouse, n_Refused, n_NotNext, n_Mismatch, n_BadPaper, n_InvalidText, n_InvalidCommand, n_InvalidLimit, n_UnknownWord, n_NoAnswer, n_NoEdition, n_NothingToUndo, n_TooMany, (List.forall_mem_cons.2 ⟨⟨XC_Refused, xn_Refused_complaints⟩, (fun _ h => nomatch h)⟩), (List.forall_mem_cons.2 ⟨⟨XC_NoEdition, xn_NoEdition_edition⟩, (fun _ h => nomatch h)⟩), (List.forall_mem_cons.2 ⟨⟨XC_InvalidPackage, xn_InvalidPackage_field⟩, (List.forall_mem_cons.2 ⟨⟨XC_NotNext, xn_NotNext_field⟩, (fun _ h => nomatch h)⟩)⟩), (List.forall_mem_cons.2 ⟨⟨XC_InvalidPackage, xn_InvalidPackage_index⟩, (List.forall_mem_cons.2 ⟨⟨XC_NotNext, xn_NotNext_index⟩, (List.forall_mem_cons.2 ⟨⟨XC_BadPaper, xn_BadPaper_index⟩, (fun _ h => nomatch h)⟩)⟩)⟩), (List.forall_mem_cons.2 ⟨⟨XC_InvalidLimit, xn_InvalidLimit_limit⟩, (List.forall_mem_cons.2 ⟨⟨XC_TooMany, xn_TooMany_limit⟩, (fun _ h => nomatch h)⟩)⟩), (List.forall_mem_cons.2 ⟨⟨XC_InvalidText, xn_InvalidText_line⟩, (fun _ h => nomatch h)⟩), (List.forall_mem_cons.2 ⟨⟨XC_NoHouse, xn_NoHouse_name⟩, (List.forall_mem_cons.2 ⟨⟨XC_Mismatch, xn_Mismatch_name⟩, (List.forall_mem_cons.2 ⟨⟨XC_NoEdition, xn_NoEdition_name⟩, (fun _ h => nomatch h)⟩)⟩)⟩), (List.forall_mem_cons.2 ⟨⟨XC_Mismatch, xn_Mismatch_other⟩, (fun _ h => nomatch h)⟩), (List.forall_mem_cons.2 ⟨⟨XC_NoAnswer, xn_NoAnswer_question⟩, (fun _ h => nomatch h)⟩), (List.forall_mem_cons.2 ⟨⟨XC_InvalidRule, xn_InvalidRule_reason⟩, (List.forall_mem_cons.2 ⟨⟨XC_InvalidFunction, xn_InvalidFunction_reason⟩, (List.forall_mem_cons.2 ⟨⟨XC_NoHouse, xn_NoHouse_reason⟩, (fun _ h => nomatch h)⟩)⟩)⟩), (List.forall_mem_cons.2 ⟨⟨XC_InvalidTerm, xn_InvalidTerm_thing⟩, (fun _ h => nomatch h)⟩), (List.forall_mem_cons.2 ⟨⟨XC_InvalidCommand, xn_InvalidCommand_word⟩, (List.forall_mem_cons.2 ⟨⟨XC_UnknownWord, xn_UnknownWord_word⟩, (fun _ h => nomatch h)⟩)⟩), (List.forall_mem_cons.2 ⟨⟨XC_InvalidTerm, xq_InvalidTerm_BadPaper⟩, (List.forall_mem_cons.2 ⟨⟨XC_InvalidRule, xq_InvalidRule_BadPaper⟩, (List.forall_mem_cons.2 ⟨⟨XC_InvalidFunction, xq_InvalidFunction_BadPaper⟩, (List.forall_mem_cons.2 ⟨⟨XC_InvalidPackage, xq_InvalidPackage_BadPaper⟩, (List.forall_mem_cons.2 ⟨⟨XC_NoHouse, xq_NoHouse_BadPaper⟩, (List.forall_mem_cons.2 ⟨⟨XC_Refused, xq_Refused_BadPaper⟩, (List.forall_mem_cons.2 ⟨⟨XC_NotNext, xq_NotNext_BadPaper⟩, (List.forall_mem_cons.2 ⟨⟨XC_Mismatch, xq_Mismatch_BadPaper⟩, (List.forall_mem_cons.2 ⟨⟨XC_BadPaper, xq_BadPaper_BadPaper⟩, (List.forall_mem_cons.2 ⟨⟨XC_InvalidText, xq_InvalidText_BadPaper⟩, (List.forall_mem_cons.2 ⟨⟨XC_InvalidCommand, xq_InvalidCommand_BadPaper⟩, (List.forall_mem_cons.2 ⟨⟨XC_InvalidLimit, xq_InvalidLimit_BadPaper⟩, (List.forall_mem_cons.2 ⟨⟨XC_UnknownWord, xq_UnknownWord_BadPaper⟩, (List.forall_mem_cons.2 ⟨⟨XC_NoAnswer, xq_NoAnswer_BadPaper⟩, (List.forall_mem_cons.2 ⟨⟨XC_NoEdition, xq_NoEdition_BadPaper⟩, (List.forall_mem_cons.2 ⟨⟨XC_NothingToUndo, xq_NothingToUndo_BadPaper⟩, (List.forall_mem_cons.2 ⟨⟨XC_TooMany, xq_TooMany_BadPaper⟩, (fun _ h => nomatch h)⟩)⟩)⟩)⟩)⟩)⟩)⟩)⟩)⟩)⟩)⟩)⟩)⟩)⟩)⟩)⟩)⟩), (List.forall_mem_cons.2 ⟨⟨XC_InvalidTerm, xq_InvalidTerm_InvalidCommand⟩, (List.forall_mem_cons.2 ⟨⟨XC_InvalidRule, xq_InvalidRule_InvalidCommand⟩, (List.forall_mem_cons.2 ⟨⟨XC_InvalidFunction, xq_InvalidFunction_InvalidCommand⟩, (List.forall_mem_cons.2 ⟨⟨XC_InvalidPackage, xq_InvalidPackage_InvalidCommand⟩, (List.forall_mem_cons.2 ⟨⟨XC_NoHouse, xq_NoHouse_InvalidCommand⟩, (List.forall_mem_cons.2 ⟨⟨XC_Refused, xq_Refused_InvalidCommand⟩, (List.forall_mem_cons.2 ⟨⟨XC_NotNext, xq_NotNext_InvalidCommand⟩, (List.forall_mem_cons.2 ⟨⟨XC_Mismatch, xq_Mismatch_InvalidCommand⟩, (List.forall_mem_cons.2 ⟨⟨XC_BadPaper, xq_BadPaper_InvalidCommand⟩, (List.forall_mem_cons.2 ⟨⟨XC_InvalidText, xq_InvalidText_InvalidCommand⟩, (List.forall_mem_cons.2 ⟨⟨XC_InvalidCommand, xq_InvalidCommand_InvalidCommand⟩, (List.forall_mem_cons.2 ⟨⟨XC_InvalidLimit, xq_InvalidLimit_InvalidCommand⟩, (List.forall_mem_cons.2 ⟨⟨XC_UnknownWord, xq_UnknownWord_InvalidCommand⟩, (List.forall_mem_cons.2 ⟨⟨XC_NoAnswer, xq_NoAnswer_InvalidCommand⟩, (List.forall_mem_cons.2 ⟨⟨XC_NoEdition, xq_NoEdition_InvalidCommand⟩, (List.forall_mem_cons.2 ⟨⟨XC_NothingToUndo, xq_NothingToUndo_InvalidCommand⟩, (List.forall_mem_cons.2 ⟨⟨XC_TooMany, xq_TooMany_InvalidCommand⟩, (fun _ h => nomatch h)⟩)⟩)⟩)⟩)⟩)⟩)⟩)⟩)⟩)⟩)⟩)⟩)⟩)⟩)⟩)⟩)⟩), (List.forall_mem_cons.2 ⟨⟨XC_InvalidTerm, xq_InvalidTerm_InvalidFunction⟩, (List.forall_mem_cons.2 ⟨⟨XC_InvalidRule, xq_InvalidRule_InvalidFunction⟩, (List.forall_mem_cons.2 ⟨⟨XC_InvalidFunction, xq_InvalidFunction_InvalidFunction⟩, (List.forall_mem_cons.2 ⟨⟨XC_InvalidPackage, xq_InvalidPackage_InvalidFunction⟩, (List.forall_mem_cons.2 ⟨⟨XC_NoHouse, xq_NoHouse_InvalidFunction⟩, (List.forall_mem_cons.2 ⟨⟨XC_Refused, xq_Refused_InvalidFunction⟩, (List.forall_mem_cons.2 ⟨⟨XC_NotNext, xq_NotNext_InvalidFunction⟩, (List.forall_mem_cons.2 ⟨⟨XC_Mismatch, xq_Mismatch_InvalidFunction⟩, (List.forall_mem_cons.2 ⟨⟨XC_BadPaper, xq_BadPaper_InvalidFunction⟩, (List.forall_mem_cons.2 ⟨⟨XC_InvalidText, xq_InvalidText_InvalidFunction⟩, (List.forall_mem_cons.2 ⟨⟨XC_InvalidCommand, xq_InvalidCommand_InvalidFunction⟩, (List.forall_mem_cons.2 ⟨⟨XC_InvalidLimit, xq_InvalidLimit_InvalidFunction⟩, (List.forall_mem_cons.2 ⟨⟨XC_UnknownWord, xq_UnknownWord_InvalidFunction⟩, (List.forall_mem_cons.2 ⟨⟨XC_NoAnswer, xq_NoAnswer_InvalidFunction⟩, (List.forall_mem_cons.2 ⟨⟨XC_NoEdition, xq_NoEdition_InvalidFunction⟩, (List.forall_mem_cons.2 ⟨⟨XC_NothingToUndo, xq_NothingToUndo_InvalidFunction⟩, (List.forall_mem_cons.2 ⟨⟨XC_TooMany, xq_TooMany_InvalidFunction⟩, (fun _ h => nomatch h)⟩)⟩)⟩)⟩)⟩)⟩)⟩)⟩)⟩)⟩)⟩)⟩)⟩)⟩)⟩)⟩)⟩), (List.forall_mem_cons.2 ⟨⟨XC_InvalidTerm, xq_InvalidTerm_InvalidLimit⟩, (List.forall_mem_cons.2 ⟨⟨XC_InvalidRule, xq_InvalidRule_InvalidLimit⟩, (List.forall_mem_cons.2 ⟨⟨XC_InvalidFunction, xq_InvalidFunction_InvalidLimit⟩, (List.forall_mem_cons.2 ⟨⟨XC_InvalidPackage, xq_InvalidPackage_InvalidLimit⟩, (List.forall_mem_cons.2 ⟨⟨XC_NoHouse, xq_NoHouse_InvalidLimit⟩, (List.forall_mem_cons.2 ⟨⟨XC_Refused, xq_Refused_InvalidLimit⟩, (List.forall_mem_cons.2 ⟨⟨XC_NotNext, xq_NotNext_InvalidLimit⟩, (List.forall_mem_cons.2 ⟨⟨XC_Mismatch, xq_Mismatch_InvalidLimit⟩, (List.forall_mem_cons.2 ⟨⟨XC_BadPaper, xq_BadPaper_InvalidLimit⟩, (List.forall_mem_cons.2 ⟨⟨XC_InvalidText, xq_InvalidText_InvalidLimit⟩, (List.forall_mem_cons.2 ⟨⟨XC_InvalidCommand, xq_InvalidCommand_InvalidLimit⟩, (List.forall_mem_cons.2 ⟨⟨XC_InvalidLimit, xq_InvalidLimit_InvalidLimit⟩, (List.forall_mem_cons.2 ⟨⟨XC_UnknownWord, xq_UnknownWord_InvalidLimit⟩, (List.forall_mem_cons.2 ⟨⟨XC_NoAnswer, xq_NoAnswer_InvalidLimit⟩, (List.forall_mem_cons.2 ⟨⟨XC_NoEdition, xq_NoEdition_InvalidLimit⟩, (List.forall_mem_cons.2 ⟨⟨XC_NothingToUndo, xq_NothingToUndo_InvalidLimit⟩, (List.forall_mem_cons.2 ⟨⟨XC_TooMany, xq_TooMany_InvalidLimit⟩, (fun _ h => nomatch h)⟩)⟩)⟩)⟩)⟩)⟩)⟩)⟩)⟩)⟩)⟩)⟩)⟩)⟩)⟩)⟩)⟩), (List.forall_mem_cons.2 ⟨⟨XC_InvalidTerm, xq_InvalidTerm_InvalidPackage⟩, (List.forall_mem_cons.2 ⟨⟨XC_InvalidRule, xq_InvalidRule_InvalidPackage⟩, (List.forall_mem_cons.2 ⟨⟨XC_InvalidFunction, xq_InvalidFunction_InvalidPackage⟩, (List.forall_mem_cons.2 ⟨⟨XC_InvalidPackage, xq_InvalidPackage_InvalidPackage⟩, (List.forall_mem_cons.2 ⟨⟨XC_NoHouse, xq_NoHouse_InvalidPackage⟩, (List.forall_mem_cons.2 ⟨⟨XC_Refused, xq_Refused_InvalidPackage⟩, (List.forall_mem_cons.2 ⟨⟨XC_NotNext, xq_NotNext_InvalidPackage⟩, (List.forall_mem_cons.2 ⟨⟨XC_Mismatch, xq_Mismatch_InvalidPackage⟩, (List.forall_mem_cons.2 ⟨⟨XC_BadPaper, xq_BadPaper_InvalidPackage⟩, (List.forall_mem_cons.2 ⟨⟨XC_InvalidText, xq_InvalidText_InvalidPackage⟩, (List.forall_mem_cons.2 ⟨⟨XC_InvalidCommand, xq_InvalidCommand_InvalidPackage⟩, (List.forall_mem_cons.2 ⟨⟨XC_InvalidLimit, xq_InvalidLimit_InvalidPackage⟩, (List.forall_mem_cons.2 ⟨⟨XC_UnknownWord, xq_UnknownWord_InvalidPackage⟩, (List.forall_mem_cons.2 ⟨⟨XC_NoAnswer, xq_NoAnswer_InvalidPackage⟩, (List.forall_mem_cons.2 ⟨⟨XC_NoEdition, xq_NoEdition_InvalidPackage⟩, (List.forall_mem_cons.2 ⟨⟨XC_NothingToUndo, xq_NothingToUndo_InvalidPackage⟩, (List.forall_mem_cons.2 ⟨⟨XC_TooMany, xq_TooMany_InvalidPackage⟩, (fun _ h => nomatch h)⟩)⟩)⟩)⟩)⟩)⟩)⟩)⟩)⟩)⟩)⟩)⟩)⟩)⟩)⟩)⟩)⟩), (List.forall_mem_cons.2 ⟨⟨XC_InvalidTerm, xq_InvalidTerm_InvalidRule⟩, (List.forall_mem_cons.2 ⟨⟨XC_InvalidRule, xq_InvalidRule_InvalidRule⟩, (List.forall_mem_cons.2 ⟨⟨XC_InvalidFunction, xq_InvalidFunction_InvalidRule⟩, (List.forall_mem_cons.2 ⟨⟨XC_InvalidPackage, xq_InvalidPackage_InvalidRule⟩, (List.forall_mem_cons.2 ⟨⟨XC_NoHouse, xq_NoHouse_InvalidRule⟩, (List.forall_mem_cons.2 ⟨⟨XC_Refused, xq_Refused_InvalidRule⟩, (List.forall_mem_cons.2 ⟨⟨XC_NotNext, xq_NotNext_InvalidRule⟩, (List.forall_mem_cons.2 ⟨⟨XC_Mismatch, xq_Mismatch_InvalidRule⟩, (List.forall_mem_cons.2 ⟨⟨XC_BadPaper, xq_BadPaper_InvalidRule⟩, (List.forall_mem_cons.2 ⟨⟨XC_InvalidText, xq_InvalidText_InvalidRule⟩, (List.forall_mem_cons.2 ⟨⟨XC_InvalidCommand, xq_InvalidCommand_InvalidRule⟩, (List.forall_mem_cons.2 ⟨⟨XC_InvalidLimit, xq_InvalidLimit_InvalidRule⟩, (List.forall_mem_cons.2 ⟨⟨XC_UnknownWord, xq_UnknownWord_InvalidRule⟩, (List.forall_mem_cons.2 ⟨⟨XC_NoAnswer, xq_NoAnswer_InvalidRule⟩, (List.forall_mem_cons.2 ⟨⟨XC_NoEdition, xq_NoEdition_InvalidRule⟩, (List.forall_mem_cons.2 ⟨⟨XC_NothingToUndo, xq_NothingToUndo_InvalidRule⟩, (List.forall_mem_cons.2 ⟨⟨XC_TooMany, xq_TooMany_InvalidRule⟩, (fun _ h => nomatch h)⟩)⟩)⟩)⟩)⟩)⟩)⟩)⟩)⟩)⟩)⟩)⟩)⟩)⟩)⟩)⟩)⟩), (List.forall_mem_cons.2 ⟨⟨XC_InvalidTerm, xq_InvalidTerm_InvalidTerm⟩, (List.forall_mem_cons.2 ⟨⟨XC_InvalidRule, xq_InvalidRule_InvalidTerm⟩, (List.forall_mem_cons.2 ⟨⟨XC_InvalidFunction, xq_InvalidFunction_InvalidTerm⟩, (List.forall_mem_cons.2 ⟨⟨XC_InvalidPackage, xq_InvalidPackage_InvalidTerm⟩, (List.forall_mem_cons.2 ⟨⟨XC_NoHouse, xq_NoHouse_InvalidTerm⟩, (List.forall_mem_cons.2 ⟨⟨XC_Refused, xq_Refused_InvalidTerm⟩, (List.forall_mem_cons.2 ⟨⟨XC_NotNext, xq_NotNext_InvalidTerm⟩, (List.forall_mem_cons.2 ⟨⟨XC_Mismatch, xq_Mismatch_InvalidTerm⟩, (List.forall_mem_cons.2 ⟨⟨XC_BadPaper, xq_BadPaper_InvalidTerm⟩, (List.forall_mem_cons.2 ⟨⟨XC_InvalidText, xq_InvalidText_InvalidTerm⟩, (List.forall_mem_cons.2 ⟨⟨XC_InvalidCommand, xq_InvalidCommand_InvalidTerm⟩, (List.forall_mem_cons.2 ⟨⟨XC_InvalidLimit, xq_InvalidLimit_InvalidTerm⟩, (List.forall_mem_cons.2 ⟨⟨XC_UnknownWord, xq_UnknownWord_InvalidTerm⟩, (List.forall_mem_cons.2 ⟨⟨XC_NoAnswer, xq_NoAnswer_InvalidTerm⟩, (List.forall_mem_cons.2 ⟨⟨XC_NoEdition, xq_NoEdition_InvalidTerm⟩, (List.forall_mem_cons.2 ⟨⟨XC_NothingToUndo, xq_NothingToUndo_InvalidTerm⟩, (List.forall_mem_cons.2 ⟨⟨XC_TooMany, xq_TooMany_InvalidTerm⟩, (fun _ h => nomatch h)⟩)⟩)⟩)⟩)⟩)⟩)⟩)⟩)⟩)⟩)⟩)⟩)⟩)⟩)⟩)⟩)⟩), (List.forall_mem_cons.2 ⟨⟨XC_InvalidTerm, xq_InvalidTerm_InvalidText⟩, (List.forall_mem_cons.2 ⟨⟨XC_InvalidRule, xq_InvalidRule_InvalidText⟩, (List.forall_mem_cons.2 ⟨⟨XC_InvalidFunction, xq_InvalidFunction_InvalidText⟩, (List.forall_mem_cons.2 ⟨⟨XC_InvalidPackage, xq_InvalidPackage_InvalidText⟩, (List.forall_mem_cons.2 ⟨⟨XC_NoHouse, xq_NoHouse_InvalidText⟩, (List.forall_mem_cons.2 ⟨⟨XC_Refused, xq_Refused_InvalidText⟩, (List.forall_mem_cons.2 ⟨⟨XC_NotNext, xq_NotNext_InvalidText⟩, (List.forall_mem_cons.2 ⟨⟨XC_Mismatch, xq_Mismatch_InvalidText⟩, (List.forall_mem_cons.2 ⟨⟨XC_BadPaper, xq_BadPaper_InvalidText⟩, (List.forall_mem_cons.2 ⟨⟨XC_InvalidText, xq_InvalidText_InvalidText⟩, (List.forall_mem_cons.2 ⟨⟨XC_InvalidCommand, xq_InvalidCommand_InvalidText⟩, (List.forall_mem_cons.2 ⟨⟨XC_InvalidLimit, xq_InvalidLimit_InvalidText⟩, (List.forall_mem_cons.2 ⟨⟨XC_UnknownWord, xq_UnknownWord_InvalidText⟩, (List.forall_mem_cons.2 ⟨⟨XC_NoAnswer, xq_NoAnswer_InvalidText⟩, (List.forall_mem_cons.2 ⟨⟨XC_NoEdition, xq_NoEdition_InvalidText⟩, (List.forall_mem_cons.2 ⟨⟨XC_NothingToUndo, xq_NothingToUndo_InvalidText⟩, (List.forall_mem_cons.2 ⟨⟨XC_TooMany, xq_TooMany_InvalidText⟩, (fun _ h => nomatch h)⟩)⟩)⟩)⟩)⟩)⟩)⟩)⟩)⟩)⟩)⟩)⟩)⟩)⟩)⟩)⟩)⟩), (List.forall_mem_cons.2 ⟨⟨XC_InvalidTerm, xq_InvalidTerm_Mismatch⟩, (List.forall_mem_cons.2 ⟨⟨XC_InvalidRule, xq_InvalidRule_Mismatch⟩, (List.forall_mem_cons.2 ⟨⟨XC_InvalidFunction, xq_InvalidFunction_Mismatch⟩, (List.forall_mem_cons.2 ⟨⟨XC_InvalidPackage, xq_InvalidPackage_Mismatch⟩, (List.forall_mem_cons.2 ⟨⟨XC_NoHouse, xq_NoHouse_Mismatch⟩, (List.forall_mem_cons.2 ⟨⟨XC_Refused, xq_Refused_Mismatch⟩, (List.forall_mem_cons.2 ⟨⟨XC_NotNext, xq_NotNext_Mismatch⟩, (List.forall_mem_cons.2 ⟨⟨XC_Mismatch, xq_Mismatch_Mismatch⟩, (List.forall_mem_cons.2 ⟨⟨XC_BadPaper, xq_BadPaper_Mismatch⟩, (List.forall_mem_cons.2 ⟨⟨XC_InvalidText, xq_InvalidText_Mismatch⟩, (List.forall_mem_cons.2 ⟨⟨XC_InvalidCommand, xq_InvalidCommand_Mismatch⟩, (List.forall_mem_cons.2 ⟨⟨XC_InvalidLimit, xq_InvalidLimit_Mismatch⟩, (List.forall_mem_cons.2 ⟨⟨XC_UnknownWord, xq_UnknownWord_Mismatch⟩, (List.forall_mem_cons.2 ⟨⟨XC_NoAnswer, xq_NoAnswer_Mismatch⟩, (List.forall_mem_cons.2 ⟨⟨XC_NoEdition, xq_NoEdition_Mismatch⟩, (List.forall_mem_cons.2 ⟨⟨XC_NothingToUndo, xq_NothingToUndo_Mismatch⟩, (List.forall_mem_cons.2 ⟨⟨XC_TooMany, xq_TooMany_Mismatch⟩, (fun _ h => nomatch h)⟩)⟩)⟩)⟩)⟩)⟩)⟩)⟩)⟩)⟩)⟩)⟩)⟩)⟩)⟩)⟩)⟩), (List.forall_mem_cons.2 ⟨⟨XC_InvalidTerm, xq_InvalidTerm_NeverError⟩, (List.forall_mem_cons.2 ⟨⟨XC_InvalidRule, xq_InvalidRule_NeverError⟩, (List.forall_mem_cons.2 ⟨⟨XC_InvalidFunction, xq_InvalidFunction_NeverError⟩, (List.forall_mem_cons.2 ⟨⟨XC_InvalidPackage, xq_InvalidPackage_NeverError⟩, (List.forall_mem_cons.2 ⟨⟨XC_NoHouse, xq_NoHouse_NeverError⟩, (List.forall_mem_cons.2 ⟨⟨XC_Refused, xq_Refused_NeverError⟩, (List.forall_mem_cons.2 ⟨⟨XC_NotNext, xq_NotNext_NeverError⟩, (List.forall_mem_cons.2 ⟨⟨XC_Mismatch, xq_Mismatch_NeverError⟩, (List.forall_mem_cons.2 ⟨⟨XC_BadPaper, xq_BadPaper_NeverError⟩, (List.forall_mem_cons.2 ⟨⟨XC_InvalidText, xq_InvalidText_NeverError⟩, (List.forall_mem_cons.2 ⟨⟨XC_InvalidCommand, xq_InvalidCommand_NeverError⟩, (List.forall_mem_cons.2 ⟨⟨XC_InvalidLimit, xq_InvalidLimit_NeverError⟩, (List.forall_mem_cons.2 ⟨⟨XC_UnknownWord, xq_UnknownWord_NeverError⟩, (List.forall_mem_cons.2 ⟨⟨XC_NoAnswer, xq_NoAnswer_NeverError⟩, (List.forall_mem_cons.2 ⟨⟨XC_NoEdition, xq_NoEdition_NeverError⟩, (List.forall_mem_cons.2 ⟨⟨XC_NothingToUndo, xq_NothingToUndo_NeverError⟩, (List.forall_mem_cons.2 ⟨⟨XC_TooMany, xq_TooMany_NeverError⟩, (fun _ h => nomatch h)⟩)⟩)⟩)⟩)⟩)⟩)⟩)⟩)⟩)⟩)⟩)⟩)⟩)⟩)⟩)⟩)⟩), (List.forall_mem_cons.2 ⟨⟨XC_InvalidTerm, xq_InvalidTerm_NoAnswer⟩, (List.forall_mem_cons.2 ⟨⟨XC_InvalidRule, xq_InvalidRule_NoAnswer⟩, (List.forall_mem_cons.2 ⟨⟨XC_InvalidFunction, xq_InvalidFunction_NoAnswer⟩, (List.forall_mem_cons.2 ⟨⟨XC_InvalidPackage, xq_InvalidPackage_NoAnswer⟩, (List.forall_mem_cons.2 ⟨⟨XC_NoHouse, xq_NoHouse_NoAnswer⟩, (List.forall_mem_cons.2 ⟨⟨XC_Refused, xq_Refused_NoAnswer⟩, (List.forall_mem_cons.2 ⟨⟨XC_NotNext, xq_NotNext_NoAnswer⟩, (List.forall_mem_cons.2 ⟨⟨XC_Mismatch, xq_Mismatch_NoAnswer⟩, (List.forall_mem_cons.2 ⟨⟨XC_BadPaper, xq_BadPaper_NoAnswer⟩, (List.forall_mem_cons.2 ⟨⟨XC_InvalidText, xq_InvalidText_NoAnswer⟩, (List.forall_mem_cons.2 ⟨⟨XC_InvalidCommand, xq_InvalidCommand_NoAnswer⟩, (List.forall_mem_cons.2 ⟨⟨XC_InvalidLimit, xq_InvalidLimit_NoAnswer⟩, (List.forall_mem_cons.2 ⟨⟨XC_UnknownWord, xq_UnknownWord_NoAnswer⟩, (List.forall_mem_cons.2 ⟨⟨XC_NoAnswer, xq_NoAnswer_NoAnswer⟩, (List.forall_mem_cons.2 ⟨⟨XC_NoEdition, xq_NoEdition_NoAnswer⟩, (List.forall_mem_cons.2 ⟨⟨XC_NothingToUndo, xq_NothingToUndo_NoAnswer⟩, (List.forall_mem_cons.2 ⟨⟨XC_TooMany, xq_TooMany_NoAnswer⟩, (fun _ h => nomatch h)⟩)⟩)⟩)⟩)⟩)⟩)⟩)⟩)⟩)⟩)⟩)⟩)⟩)⟩)⟩)⟩)⟩), (List.forall_mem_cons.2 ⟨⟨XC_InvalidTerm, xq_InvalidTerm_NoEdition⟩, (List.forall_mem_cons.2 ⟨⟨XC_InvalidRule, xq_InvalidRule_NoEdition⟩, (List.forall_mem_cons.2 ⟨⟨XC_InvalidFunction, xq_InvalidFunction_NoEdition⟩, (List.forall_mem_cons.2 ⟨⟨XC_InvalidPackage, xq_InvalidPackage_NoEdition⟩, (List.forall_mem_cons.2 ⟨⟨XC_NoHouse, xq_NoHouse_NoEdition⟩, (List.forall_mem_cons.2 ⟨⟨XC_Refused, xq_Refused_NoEdition⟩, (List.forall_mem_cons.2 ⟨⟨XC_NotNext, xq_NotNext_NoEdition⟩, (List.forall_mem_cons.2 ⟨⟨XC_Mismatch, xq_Mismatch_NoEdition⟩, (List.forall_mem_cons.2 ⟨⟨XC_BadPaper, xq_BadPaper_NoEdition⟩, (List.forall_mem_cons.2 ⟨⟨XC_InvalidText, xq_InvalidText_NoEdition⟩, (List.forall_mem_cons.2 ⟨⟨XC_InvalidCommand, xq_InvalidCommand_NoEdition⟩, (List.forall_mem_cons.2 ⟨⟨XC_InvalidLimit, xq_InvalidLimit_NoEdition⟩, (List.forall_mem_cons.2 ⟨⟨XC_UnknownWord, xq_UnknownWord_NoEdition⟩, (List.forall_mem_cons.2 ⟨⟨XC_NoAnswer, xq_NoAnswer_NoEdition⟩, (List.forall_mem_cons.2 ⟨⟨XC_NoEdition, xq_NoEdition_NoEdition⟩, (List.forall_mem_cons.2 ⟨⟨XC_NothingToUndo, xq_NothingToUndo_NoEdition⟩, (List.forall_mem_cons.2 ⟨⟨XC_TooMany, xq_TooMany_NoEdition⟩, (fun _ h => nomatch h)⟩)⟩)⟩)⟩)⟩)⟩)⟩)⟩)⟩)⟩)⟩)⟩)⟩)⟩)⟩)⟩)⟩), (List.forall_mem_cons.2 ⟨⟨XC_InvalidTerm, xq_InvalidTerm_NoHouse⟩, (List.forall_mem_cons.2 ⟨⟨XC_InvalidRule, xq_InvalidRule_NoHouse⟩, (List.forall_mem_cons.2 ⟨⟨XC_InvalidFunction, xq_InvalidFunction_NoHouse⟩, (List.forall_mem_cons.2 ⟨⟨XC_InvalidPackage, xq_InvalidPackage_NoHouse⟩, (List.forall_mem_cons.2 ⟨⟨XC_NoHouse, xq_NoHouse_NoHouse⟩, (List.forall_mem_cons.2 ⟨⟨XC_Refused, xq_Refused_NoHouse⟩, (List.forall_mem_cons.2 ⟨⟨XC_NotNext, xq_NotNext_NoHouse⟩, (List.forall_mem_cons.2 ⟨⟨XC_Mismatch, xq_Mismatch_NoHouse⟩, (List.forall_mem_cons.2 ⟨⟨XC_BadPaper, xq_BadPaper_NoHouse⟩, (List.forall_mem_cons.2 ⟨⟨XC_InvalidText, xq_InvalidText_NoHouse⟩, (List.forall_mem_cons.2 ⟨⟨XC_InvalidCommand, xq_InvalidCommand_NoHouse⟩, (List.forall_mem_cons.2 ⟨⟨XC_InvalidLimit, xq_InvalidLimit_NoHouse⟩, (List.forall_mem_cons.2 ⟨⟨XC_UnknownWord, xq_UnknownWord_NoHouse⟩, (List.forall_mem_cons.2 ⟨⟨XC_NoAnswer, xq_NoAnswer_NoHouse⟩, (List.forall_mem_cons.2 ⟨⟨XC_NoEdition, xq_NoEdition_NoHouse⟩, (List.forall_mem_cons.2 ⟨⟨XC_NothingToUndo, xq_NothingToUndo_NoHouse⟩, (List.forall_mem_cons.2 ⟨⟨XC_TooMany, xq_TooMany_NoHouse⟩, (fun _ h => nomatch h)⟩)⟩)⟩)⟩)⟩)⟩)⟩)⟩)⟩)⟩)⟩)⟩)⟩)⟩)⟩)⟩)⟩), (List.forall_mem_cons.2 ⟨⟨XC_InvalidTerm, xq_InvalidTerm_NotNext⟩, (List.forall_mem_cons.2 ⟨⟨XC_InvalidRule, xq_InvalidRule_NotNext⟩, (List.forall_mem_cons.2 ⟨⟨XC_InvalidFunction, xq_InvalidFunction_NotNext⟩, (List.forall_mem_cons.2 ⟨⟨XC_InvalidPackage, xq_InvalidPackage_NotNext⟩, (List.forall_mem_cons.2 ⟨⟨XC_NoHouse, xq_NoHouse_NotNext⟩, (List.forall_mem_cons.2 ⟨⟨XC_Refused, xq_Refused_NotNext⟩, (List.forall_mem_cons.2 ⟨⟨XC_NotNext, xq_NotNext_NotNext⟩, (List.forall_mem_cons.2 ⟨⟨XC_Mismatch, xq_Mismatch_NotNext⟩, (List.forall_mem_cons.2 ⟨⟨XC_BadPaper, xq_BadPaper_NotNext⟩, (List.forall_mem_cons.2 ⟨⟨XC_InvalidText, xq_InvalidText_NotNext⟩, (List.forall_mem_cons.2 ⟨⟨XC_InvalidCommand, xq_InvalidCommand_NotNext⟩, (List.forall_mem_cons.2 ⟨⟨XC_InvalidLimit, xq_InvalidLimit_NotNext⟩, (List.forall_mem_cons.2 ⟨⟨XC_UnknownWord, xq_UnknownWord_NotNext⟩, (List.forall_mem_cons.2 ⟨⟨XC_NoAnswer, xq_NoAnswer_NotNext⟩, (List.forall_mem_cons.2 ⟨⟨XC_NoEdition, xq_NoEdition_NotNext⟩, (List.forall_mem_cons.2 ⟨⟨XC_NothingToUndo, xq_NothingToUndo_NotNext⟩, (List.forall_mem_cons.2 ⟨⟨XC_TooMany, xq_TooMany_NotNext⟩, (fun _ h => nomatch h)⟩)⟩)⟩)⟩)⟩)⟩)⟩)⟩)⟩)⟩)⟩)⟩)⟩)⟩)⟩)⟩)⟩), (List.forall_mem_cons.2 ⟨⟨XC_InvalidTerm, xq_InvalidTerm_NothingToUndo⟩, (List.forall_mem_cons.2 ⟨⟨XC_InvalidRule, xq_InvalidRule_NothingToUndo⟩, (List.forall_mem_cons.2 ⟨⟨XC_InvalidFunction, xq_InvalidFunction_NothingToUndo⟩, (List.forall_mem_cons.2 ⟨⟨XC_InvalidPackage, xq_InvalidPackage_NothingToUndo⟩, (List.forall_mem_cons.2 ⟨⟨XC_NoHouse, xq_NoHouse_NothingToUndo⟩, (List.forall_mem_cons.2 ⟨⟨XC_Refused, xq_Refused_NothingToUndo⟩, (List.forall_mem_cons.2 ⟨⟨XC_NotNext, xq_NotNext_NothingToUndo⟩, (List.forall_mem_cons.2 ⟨⟨XC_Mismatch, xq_Mismatch_NothingToUndo⟩, (List.forall_mem_cons.2 ⟨⟨XC_BadPaper, xq_BadPaper_NothingToUndo⟩, (List.forall_mem_cons.2 ⟨⟨XC_InvalidText, xq_InvalidText_NothingToUndo⟩, (List.forall_mem_cons.2 ⟨⟨XC_InvalidCommand, xq_InvalidCommand_NothingToUndo⟩, (List.forall_mem_cons.2 ⟨⟨XC_InvalidLimit, xq_InvalidLimit_NothingToUndo⟩, (List.forall_mem_cons.2 ⟨⟨XC_UnknownWord, xq_UnknownWord_NothingToUndo⟩, (List.forall_mem_cons.2 ⟨⟨XC_NoAnswer, xq_NoAnswer_NothingToUndo⟩, (List.forall_mem_cons.2 ⟨⟨XC_NoEdition, xq_NoEdition_NothingToUndo⟩, (List.forall_mem_cons.2 ⟨⟨XC_NothingToUndo, xq_NothingToUndo_NothingToUndo⟩, (List.forall_mem_cons.2 ⟨⟨XC_TooMany, xq_TooMany_NothingToUndo⟩, (fun _ h => nomatch h)⟩)⟩)⟩)⟩)⟩)⟩)⟩)⟩)⟩)⟩)⟩)⟩)⟩)⟩)⟩)⟩)⟩), (List.forall_mem_cons.2 ⟨⟨XC_InvalidTerm, xq_InvalidTerm_Refused⟩, (List.forall_mem_cons.2 ⟨⟨XC_InvalidRule, xq_InvalidRule_Refused⟩, (List.forall_mem_cons.2 ⟨⟨XC_InvalidFunction, xq_InvalidFunction_Refused⟩, (List.forall_mem_cons.2 ⟨⟨XC_InvalidPackage, xq_InvalidPackage_Refused⟩, (List.forall_mem_cons.2 ⟨⟨XC_NoHouse, xq_NoHouse_Refused⟩, (List.forall_mem_cons.2 ⟨⟨XC_Refused, xq_Refused_Refused⟩, (List.forall_mem_cons.2 ⟨⟨XC_NotNext, xq_NotNext_Refused⟩, (List.forall_mem_cons.2 ⟨⟨XC_Mismatch, xq_Mismatch_Refused⟩, (List.forall_mem_cons.2 ⟨⟨XC_BadPaper, xq_BadPaper_Refused⟩, (List.forall_mem_cons.2 ⟨⟨XC_InvalidText, xq_InvalidText_Refused⟩, (List.forall_mem_cons.2 ⟨⟨XC_InvalidCommand, xq_InvalidCommand_Refused⟩, (List.forall_mem_cons.2 ⟨⟨XC_InvalidLimit, xq_InvalidLimit_Refused⟩, (List.forall_mem_cons.2 ⟨⟨XC_UnknownWord, xq_UnknownWord_Refused⟩, (List.forall_mem_cons.2 ⟨⟨XC_NoAnswer, xq_NoAnswer_Refused⟩, (List.forall_mem_cons.2 ⟨⟨XC_NoEdition, xq_NoEdition_Refused⟩, (List.forall_mem_cons.2 ⟨⟨XC_NothingToUndo, xq_NothingToUndo_Refused⟩, (List.forall_mem_cons.2 ⟨⟨XC_TooMany, xq_TooMany_Refused⟩, (fun _ h => nomatch h)⟩)⟩)⟩)⟩)⟩)⟩)⟩)⟩)⟩)⟩)⟩)⟩)⟩)⟩)⟩)⟩)⟩), (List.forall_mem_cons.2 ⟨⟨XC_InvalidTerm, xq_InvalidTerm_TooMany⟩, (List.forall_mem_cons.2 ⟨⟨XC_InvalidRule, xq_InvalidRule_TooMany⟩, (List.forall_mem_cons.2 ⟨⟨XC_InvalidFunction, xq_InvalidFunction_TooMany⟩, (List.forall_mem_cons.2 ⟨⟨XC_InvalidPackage, xq_InvalidPackage_TooMany⟩, (List.forall_mem_cons.2 ⟨⟨XC_NoHouse, xq_NoHouse_TooMany⟩, (List.forall_mem_cons.2 ⟨⟨XC_Refused, xq_Refused_TooMany⟩, (List.forall_mem_cons.2 ⟨⟨XC_NotNext, xq_NotNext_TooMany⟩, (List.forall_mem_cons.2 ⟨⟨XC_Mismatch, xq_Mismatch_TooMany⟩, (List.forall_mem_cons.2 ⟨⟨XC_BadPaper, xq_BadPaper_TooMany⟩, (List.forall_mem_cons.2 ⟨⟨XC_InvalidText, xq_InvalidText_TooMany⟩, (List.forall_mem_cons.2 ⟨⟨XC_InvalidCommand, xq_InvalidCommand_TooMany⟩, (List.forall_mem_cons.2 ⟨⟨XC_InvalidLimit, xq_InvalidLimit_TooMany⟩, (List.forall_mem_cons.2 ⟨⟨XC_UnknownWord, xq_UnknownWord_TooMany⟩, (List.forall_mem_cons.2 ⟨⟨XC_NoAnswer, xq_NoAnswer_TooMany⟩, (List.forall_mem_cons.2 ⟨⟨XC_NoEdition, xq_NoEdition_TooMany⟩, (List.forall_mem_cons.2 ⟨⟨XC_NothingToUndo, xq_NothingToUndo_TooMany⟩, (List.forall_mem_cons.2 ⟨⟨XC_TooMany, xq_TooMany_TooMany⟩, (fun _ h => nomatch h)⟩)⟩)⟩)⟩)⟩)⟩)⟩)⟩)⟩)⟩)⟩)⟩)⟩)⟩)⟩)⟩)⟩), (List.forall_mem_cons.2 ⟨⟨XC_InvalidTerm, xq_InvalidTerm_UnknownWord⟩, (List.forall_mem_cons.2 ⟨⟨XC_InvalidRule, xq_InvalidRule_UnknownWord⟩, (List.forall_mem_cons.2 ⟨⟨XC_InvalidFunction, xq_InvalidFunction_UnknownWord⟩, (List.forall_mem_cons.2 ⟨⟨XC_InvalidPackage, xq_InvalidPackage_UnknownWord⟩, (List.forall_mem_cons.2 ⟨⟨XC_NoHouse, xq_NoHouse_UnknownWord⟩, (List.forall_mem_cons.2 ⟨⟨XC_Refused, xq_Refused_UnknownWord⟩, (List.forall_mem_cons.2 ⟨⟨XC_NotNext, xq_NotNext_UnknownWord⟩, (List.forall_mem_cons.2 ⟨⟨XC_Mismatch, xq_Mismatch_UnknownWord⟩, (List.forall_mem_cons.2 ⟨⟨XC_BadPaper, xq_BadPaper_UnknownWord⟩, (List.forall_mem_cons.2 ⟨⟨XC_InvalidText, xq_InvalidText_UnknownWord⟩, (List.forall_mem_cons.2 ⟨⟨XC_InvalidCommand, xq_InvalidCommand_UnknownWord⟩, (List.forall_mem_cons.2 ⟨⟨XC_InvalidLimit, xq_InvalidLimit_UnknownWord⟩, (List.forall_mem_cons.2 ⟨⟨XC_UnknownWord, xq_UnknownWord_UnknownWord⟩, (List.forall_mem_cons.2 ⟨⟨XC_NoAnswer, xq_NoAnswer_UnknownWord⟩, (List.forall_mem_cons.2 ⟨⟨XC_NoEdition, xq_NoEdition_UnknownWord⟩, (List.forall_mem_cons.2 ⟨⟨XC_NothingToUndo, xq_NothingToUndo_UnknownWord⟩, (List.forall_mem_cons.2 ⟨⟨XC_TooMany, xq_TooMany_UnknownWord⟩, (fun _ h => nomatch h)⟩)⟩)⟩)⟩)⟩)⟩)⟩)⟩)⟩)⟩)⟩)⟩)⟩)⟩)⟩)⟩)⟩), (List.forall_mem_cons.2 ⟨⟨XC_InvalidTerm, xq_InvalidTerm_KeyError⟩, (List.forall_mem_cons.2 ⟨⟨XC_InvalidRule, xq_InvalidRule_KeyError⟩, (List.forall_mem_cons.2 ⟨⟨XC_InvalidFunction, xq_InvalidFunction_KeyError⟩, (List.forall_mem_cons.2 ⟨⟨XC_InvalidPackage, xq_InvalidPackage_KeyError⟩, (List.forall_mem_cons.2 ⟨⟨XC_NoHouse, xq_NoHouse_KeyError⟩, (List.forall_mem_cons.2 ⟨⟨XC_Refused, xq_Refused_KeyError⟩, (List.forall_mem_cons.2 ⟨⟨XC_NotNext, xq_NotNext_KeyError⟩, (List.forall_mem_cons.2 ⟨⟨XC_Mismatch, xq_Mismatch_KeyError⟩, (List.forall_mem_cons.2 ⟨⟨XC_BadPaper, xq_BadPaper_KeyError⟩, (List.forall_mem_cons.2 ⟨⟨XC_InvalidText, xq_InvalidText_KeyError⟩, (List.forall_mem_cons.2 ⟨⟨XC_InvalidCommand, xq_InvalidCommand_KeyError⟩, (List.forall_mem_cons.2 ⟨⟨XC_InvalidLimit, xq_InvalidLimit_KeyError⟩, (List.forall_mem_cons.2 ⟨⟨XC_UnknownWord, xq_UnknownWord_KeyError⟩, (List.forall_mem_cons.2 ⟨⟨XC_NoAnswer, xq_NoAnswer_KeyError⟩, (List.forall_mem_cons.2 ⟨⟨XC_NoEdition, xq_NoEdition_KeyError⟩, (List.forall_mem_cons.2 ⟨⟨XC_NothingToUndo, xq_NothingToUndo_KeyError⟩, (List.forall_mem_cons.2 ⟨⟨XC_TooMany, xq_TooMany_KeyError⟩, (fun _ h => nomatch h)⟩)⟩)⟩)⟩)⟩)⟩)⟩)⟩)⟩)⟩)⟩)⟩)⟩)⟩)⟩)⟩)⟩), (List.forall_mem_cons.2 ⟨⟨XC_InvalidTerm, xq_InvalidTerm_LookupError⟩, (List.forall_mem_cons.2 ⟨⟨XC_InvalidRule, xq_InvalidRule_LookupError⟩, (List.forall_mem_cons.2 ⟨⟨XC_InvalidFunction, xq_InvalidFunction_LookupError⟩, (List.forall_mem_cons.2 ⟨⟨XC_InvalidPackage, xq_InvalidPackage_LookupError⟩, (List.forall_mem_cons.2 ⟨⟨XC_NoHouse, xq_NoHouse_LookupError⟩, (List.forall_mem_cons.2 ⟨⟨XC_Refused, xq_Refused_LookupError⟩, (List.forall_mem_cons.2 ⟨⟨XC_NotNext, xq_NotNext_LookupError⟩, (List.forall_mem_cons.2 ⟨⟨XC_Mismatch, xq_Mismatch_LookupError⟩, (List.forall_mem_cons.2 ⟨⟨XC_BadPaper, xq_BadPaper_LookupError⟩, (List.forall_mem_cons.2 ⟨⟨XC_InvalidText, xq_InvalidText_LookupError⟩, (List.forall_mem_cons.2 ⟨⟨XC_InvalidCommand, xq_InvalidCommand_LookupError⟩, (List.forall_mem_cons.2 ⟨⟨XC_InvalidLimit, xq_InvalidLimit_LookupError⟩, (List.forall_mem_cons.2 ⟨⟨XC_UnknownWord, xq_UnknownWord_LookupError⟩, (List.forall_mem_cons.2 ⟨⟨XC_NoAnswer, xq_NoAnswer_LookupError⟩, (List.forall_mem_cons.2 ⟨⟨XC_NoEdition, xq_NoEdition_LookupError⟩, (List.forall_mem_cons.2 ⟨⟨XC_NothingToUndo, xq_NothingToUndo_LookupError⟩, (List.forall_mem_cons.2 ⟨⟨XC_TooMany, xq_TooMany_LookupError⟩, (fun _ h => nomatch h)⟩)⟩)⟩)⟩)⟩)⟩)⟩)⟩)⟩)⟩)⟩)⟩)⟩)⟩)⟩)⟩)⟩), (List.forall_mem_cons.2 ⟨⟨XC_InvalidTerm, xq_InvalidTerm_OverflowError⟩, (List.forall_mem_cons.2 ⟨⟨XC_InvalidRule, xq_InvalidRule_OverflowError⟩, (List.forall_mem_cons.2 ⟨⟨XC_InvalidFunction, xq_InvalidFunction_OverflowError⟩, (List.forall_mem_cons.2 ⟨⟨XC_InvalidPackage, xq_InvalidPackage_OverflowError⟩, (List.forall_mem_cons.2 ⟨⟨XC_NoHouse, xq_NoHouse_OverflowError⟩, (List.forall_mem_cons.2 ⟨⟨XC_Refused, xq_Refused_OverflowError⟩, (List.forall_mem_cons.2 ⟨⟨XC_NotNext, xq_NotNext_OverflowError⟩, (List.forall_mem_cons.2 ⟨⟨XC_Mismatch, xq_Mismatch_OverflowError⟩, (List.forall_mem_cons.2 ⟨⟨XC_BadPaper, xq_BadPaper_OverflowError⟩, (List.forall_mem_cons.2 ⟨⟨XC_InvalidText, xq_InvalidText_OverflowError⟩, (List.forall_mem_cons.2 ⟨⟨XC_InvalidCommand, xq_InvalidCommand_OverflowError⟩, (List.forall_mem_cons.2 ⟨⟨XC_InvalidLimit, xq_InvalidLimit_OverflowError⟩, (List.forall_mem_cons.2 ⟨⟨XC_UnknownWord, xq_UnknownWord_OverflowError⟩, (List.forall_mem_cons.2 ⟨⟨XC_NoAnswer, xq_NoAnswer_OverflowError⟩, (List.forall_mem_cons.2 ⟨⟨XC_NoEdition, xq_NoEdition_OverflowError⟩, (List.forall_mem_cons.2 ⟨⟨XC_NothingToUndo, xq_NothingToUndo_OverflowError⟩, (List.forall_mem_cons.2 ⟨⟨XC_TooMany, xq_TooMany_OverflowError⟩, (fun _ h => nomatch h)⟩)⟩)⟩)⟩)⟩)⟩)⟩)⟩)⟩)⟩)⟩)⟩)⟩)⟩)⟩)⟩)⟩), (List.forall_mem_cons.2 ⟨⟨XC_InvalidTerm, xq_InvalidTerm_ValueError⟩, (List.forall_mem_cons.2 ⟨⟨XC_InvalidRule, xq_InvalidRule_ValueError⟩, (List.forall_mem_cons.2 ⟨⟨XC_InvalidFunction, xq_InvalidFunction_ValueError⟩, (List.forall_mem_cons.2 ⟨⟨XC_InvalidPackage, xq_InvalidPackage_ValueError⟩, (List.forall_mem_cons.2 ⟨⟨XC_NoHouse, xq_NoHouse_ValueError⟩, (List.forall_mem_cons.2 ⟨⟨XC_Refused, xq_Refused_ValueError⟩, (List.forall_mem_cons.2 ⟨⟨XC_NotNext, xq_NotNext_ValueError⟩, (List.forall_mem_cons.2 ⟨⟨XC_Mismatch, xq_Mismatch_ValueError⟩, (List.forall_mem_cons.2 ⟨⟨XC_BadPaper, xq_BadPaper_ValueError⟩, (List.forall_mem_cons.2 ⟨⟨XC_InvalidText, xq_InvalidText_ValueError⟩, (List.forall_mem_cons.2 ⟨⟨XC_InvalidCommand, xq_InvalidCommand_ValueError⟩, (List.forall_mem_cons.2 ⟨⟨XC_InvalidLimit, xq_InvalidLimit_ValueError⟩, (List.forall_mem_cons.2 ⟨⟨XC_UnknownWord, xq_UnknownWord_ValueError⟩, (List.forall_mem_cons.2 ⟨⟨XC_NoAnswer, xq_NoAnswer_ValueError⟩, (List.forall_mem_cons.2 ⟨⟨XC_NoEdition, xq_NoEdition_ValueError⟩, (List.forall_mem_cons.2 ⟨⟨XC_NothingToUndo, xq_NothingToUndo_ValueError⟩, (List.forall_mem_cons.2 ⟨⟨XC_TooMany, xq_TooMany_ValueError⟩, (fun _ h => nomatch h)⟩)⟩)⟩)⟩)⟩)⟩)⟩)⟩)⟩)⟩)⟩)⟩)⟩)⟩)⟩)⟩)⟩)⟩
  obtain ⟨a_is_name, e_is_name, m_is_name, F_is_name⟩ := D_is_name.fn X G
  have b_is_name := F_is_name.binds (ps := ["thing"]) fun _ _ _ _ _ _ us hl => match us, hl with | [_], _ => rfl
  obtain ⟨a_is_word, e_is_word, m_is_word, F_is_word⟩ := D_is_word.fn X G
  have b_is_word := F_is_word.binds (ps := ["thing"]) fun _ _ _ _ _ _ us hl => match us, hl with | [_], _ => rfl
  obtain ⟨a_is_variable, e_is_variable, m_is_variable, F_is_variable⟩ := D_is_variable.fn X G
  have b_is_variable := F_is_variable.binds (ps := ["thing"]) fun _ _ _ _ _ _ us hl => match us, hl with | [_], _ => rfl
  obtain ⟨a_law_pen, e_law_pen, m_law_pen, F_law_pen⟩ := D_law_pen.fn X G
  have b_law_pen := F_law_pen.binds (ps := ["_law_script"]) fun _ _ _ _ _ _ us hl => match us, hl with | [_], _ => rfl
  obtain ⟨a_law_draw, e_law_draw, m_law_draw, F_law_draw⟩ := D_law_draw.fn X G
  have b_law_draw := F_law_draw.binds (ps := ["_law_pen_here", "_law_many"]) fun _ _ _ _ _ _ us hl => match us, hl with | [_, _], _ => rfl
  obtain ⟨a_law_is_name, e_law_is_name, m_law_is_name, F_law_is_name⟩ := D_law_is_name.fn X G
  have b_law_is_name := F_law_is_name.binds (ps := ["_law_entry"]) fun _ _ _ _ _ _ us hl => match us, hl with | [_], _ => rfl
  obtain ⟨a_law_is_word, e_law_is_word, m_law_is_word, F_law_is_word⟩ := D_law_is_word.fn X G
  have b_law_is_word := F_law_is_word.binds (ps := ["_law_entry"]) fun _ _ _ _ _ _ us hl => match us, hl with | [_], _ => rfl
  obtain ⟨a_law_is_variable, e_law_is_variable, m_law_is_variable, F_law_is_variable⟩ := D_law_is_variable.fn X G
  have b_law_is_variable := F_law_is_variable.binds (ps := ["_law_entry"]) fun _ _ _ _ _ _ us hl => match us, hl with | [_], _ => rfl
  obtain ⟨a_law_letters, e_law_letters, m_law_letters, F_law_letters⟩ := D_law_letters.fn X G
  have b_law_letters := F_law_letters.binds (ps := ["_law_pen_here", "_law_signs", "_law_least", "_law_most"]) fun _ _ _ _ _ _ us hl => match us, hl with | [_, _, _, _], _ => rfl
  obtain ⟨a_law_text, e_law_text, m_law_text, F_law_text⟩ := D_law_text.fn X G
  have b_law_text := F_law_text.binds (ps := ["_law_pen_here"]) fun _ _ _ _ _ _ us hl => match us, hl with | [_], _ => rfl
  obtain ⟨a_law_bent, e_law_bent, m_law_bent, F_law_bent⟩ := D_law_bent.fn X G
  have b_law_bent := F_law_bent.binds (ps := ["_law_pen_here", "_law_text_here"]) fun _ _ _ _ _ _ us hl => match us, hl with | [_, _], _ => rfl
  obtain ⟨e_InvalidTerm_init__, F_InvalidTerm_init__⟩ := M_InvalidTerm_init__.fn
  have b_InvalidTerm_init__ := F_InvalidTerm_init__.binds (ps := ["self", "thing"]) fun _ _ _ _ _ _ us hl => match us, hl with | [_, _], _ => rfl
  obtain ⟨e_InvalidRule_init__, F_InvalidRule_init__⟩ := M_InvalidRule_init__.fn
  have b_InvalidRule_init__ := F_InvalidRule_init__.binds (ps := ["self", "reason"]) fun _ _ _ _ _ _ us hl => match us, hl with | [_, _], _ => rfl
  obtain ⟨e_InvalidFunction_init__, F_InvalidFunction_init__⟩ := M_InvalidFunction_init__.fn
  have b_InvalidFunction_init__ := F_InvalidFunction_init__.binds (ps := ["self", "reason"]) fun _ _ _ _ _ _ us hl => match us, hl with | [_, _], _ => rfl
  obtain ⟨e_InvalidPackage_init__, F_InvalidPackage_init__⟩ := M_InvalidPackage_init__.fn
  have b_InvalidPackage_init__ := F_InvalidPackage_init__.binds (ps := ["self", "field", "index"]) fun _ _ _ _ _ _ us hl => match us, hl with | [_, _, _], _ => rfl
  obtain ⟨e_NoHouse_init__, F_NoHouse_init__⟩ := M_NoHouse_init__.fn
  have b_NoHouse_init__ := F_NoHouse_init__.binds (ps := ["self", "reason", "name"]) fun _ _ _ _ _ _ us hl => match us, hl with | [_, _, _], _ => rfl
  obtain ⟨e_Refused_init__, F_Refused_init__⟩ := M_Refused_init__.fn
  have b_Refused_init__ := F_Refused_init__.binds (ps := ["self", "complaints"]) fun _ _ _ _ _ _ us hl => match us, hl with | [_, _], _ => rfl
  obtain ⟨e_NotNext_init__, F_NotNext_init__⟩ := M_NotNext_init__.fn
  have b_NotNext_init__ := F_NotNext_init__.binds (ps := ["self", "field", "index"]) fun _ _ _ _ _ _ us hl => match us, hl with | [_, _, _], _ => rfl
  obtain ⟨e_Mismatch_init__, F_Mismatch_init__⟩ := M_Mismatch_init__.fn
  have b_Mismatch_init__ := F_Mismatch_init__.binds (ps := ["self", "name", "other"]) fun _ _ _ _ _ _ us hl => match us, hl with | [_, _, _], _ => rfl
  obtain ⟨e_BadPaper_init__, F_BadPaper_init__⟩ := M_BadPaper_init__.fn
  have b_BadPaper_init__ := F_BadPaper_init__.binds (ps := ["self", "index"]) fun _ _ _ _ _ _ us hl => match us, hl with | [_, _], _ => rfl
  obtain ⟨e_InvalidText_init__, F_InvalidText_init__⟩ := M_InvalidText_init__.fn
  have b_InvalidText_init__ := F_InvalidText_init__.binds (ps := ["self", "line"]) fun _ _ _ _ _ _ us hl => match us, hl with | [_, _], _ => rfl
  obtain ⟨e_InvalidCommand_init__, F_InvalidCommand_init__⟩ := M_InvalidCommand_init__.fn
  have b_InvalidCommand_init__ := F_InvalidCommand_init__.binds (ps := ["self", "word"]) fun _ _ _ _ _ _ us hl => match us, hl with | [_, _], _ => rfl
  obtain ⟨e_InvalidLimit_init__, F_InvalidLimit_init__⟩ := M_InvalidLimit_init__.fn
  have b_InvalidLimit_init__ := F_InvalidLimit_init__.binds (ps := ["self", "limit"]) fun _ _ _ _ _ _ us hl => match us, hl with | [_, _], _ => rfl
  obtain ⟨e_UnknownWord_init__, F_UnknownWord_init__⟩ := M_UnknownWord_init__.fn
  have b_UnknownWord_init__ := F_UnknownWord_init__.binds (ps := ["self", "word"]) fun _ _ _ _ _ _ us hl => match us, hl with | [_, _], _ => rfl
  obtain ⟨e_NoAnswer_init__, F_NoAnswer_init__⟩ := M_NoAnswer_init__.fn
  have b_NoAnswer_init__ := F_NoAnswer_init__.binds (ps := ["self", "question"]) fun _ _ _ _ _ _ us hl => match us, hl with | [_, _], _ => rfl
  obtain ⟨e_NoEdition_init__, F_NoEdition_init__⟩ := M_NoEdition_init__.fn
  have b_NoEdition_init__ := F_NoEdition_init__.binds (ps := ["self", "name", "edition"]) fun _ _ _ _ _ _ us hl => match us, hl with | [_, _, _], _ => rfl
  obtain ⟨e_NothingToUndo_init__, F_NothingToUndo_init__⟩ := M_NothingToUndo_init__.fn
  have b_NothingToUndo_init__ := F_NothingToUndo_init__.binds (ps := ["self"]) fun _ _ _ _ _ _ us hl => match us, hl with | [_], _ => rfl
  obtain ⟨e_TooMany_init__, F_TooMany_init__⟩ := M_TooMany_init__.fn
  have b_TooMany_init__ := F_TooMany_init__.binds (ps := ["self", "limit"]) fun _ _ _ _ _ _ us hl => match us, hl with | [_, _], _ => rfl
  obtain ⟨a_law_made, e_law_made, m_law_made, F_law_made⟩ := D_law_made.fn X G
  have b_law_made := F_law_made.binds (ps := ["_law_a", "_law_b"]) fun _ _ _ _ _ _ us hl => match us, hl with | [_, _], _ => rfl
  obtain ⟨a_law_marks, e_law_marks, m_law_marks, F_law_marks⟩ := D_law_marks.fn X G
  have b_law_marks := F_law_marks.binds (ps := ["_law_error"]) fun _ _ _ _ _ _ us hl => match us, hl with | [_], _ => rfl
  obtain ⟨a_law_classes_right, e_law_classes_right, m_law_classes_right, F_law_classes_right⟩ := D_law_classes_right.fn X G
  have b_law_classes_right := F_law_classes_right.binds (ps := ["_law_a", "_law_b"]) fun _ _ _ _ _ _ us hl => match us, hl with | [_, _], _ => rfl
  obtain ⟨a_law_fields_right, e_law_fields_right, m_law_fields_right, F_law_fields_right⟩ := D_law_fields_right.fn X G
  have b_law_fields_right := F_law_fields_right.binds (ps := ["_law_a", "_law_b"]) fun _ _ _ _ _ _ us hl => match us, hl with | [_, _], _ => rfl
  obtain ⟨a_law, e_law, m_law, F_law⟩ := D_law.fn X G
  have b_law := F_law.binds (ps := ["_law_script"]) fun _ _ _ _ _ _ us hl => match us, hl with | [_], _ => rfl
  have ea := hfa.symm.trans m_law
  cases ea
  refine ⟨e_law, Nv.Fun.bindsTo F_law (fun _ _ _ _ _ _ _ => rfl), fun base hK hN hB => ?_⟩
  have B_KeyError : XBs K mg "KeyError" "KeyError.__init__" := xbs_Key (PySem.W.mg_none_of X G z_KeyError)
  have B_LookupError : XBs K mg "LookupError" "LookupError.__init__" := xbs_Lookup (PySem.W.mg_none_of X G z_LookupError)
  have B_NeverError : XBs K mg "NeverError" "ValueError.__init__" := xbs_own n_NeverError xr_NeverError xl_NeverError (by decide)
  have B_OverflowError : XBs K mg "OverflowError" "OverflowError.__init__" := xbs_Overflow (PySem.W.mg_none_of X G z_OverflowError)
  have C_is_name : Cal P w K mg base cl "is_name" t_is_name 1 ["thing"] g_is_name := ⟨a_is_name, e_is_name, m_is_name, F_is_name, b_is_name, d_is_name T hB  F_is_name⟩
  have C_is_word : Cal P w K mg base cl "is_word" t_is_word 2 ["thing"] g_is_word := ⟨a_is_word, e_is_word, m_is_word, F_is_word, b_is_word, d_is_word T hB C_is_name F_is_word⟩
  have C_is_variable : Cal P w K mg base cl "is_variable" t_is_variable 1 ["thing"] g_is_variable := ⟨a_is_variable, e_is_variable, m_is_variable, F_is_variable, b_is_variable, d_is_variable T hB  F_is_variable⟩
  have C_law_pen : CalF P w K mg base cl "_law_pen" 1 ["_law_script"] g_law_pen := ⟨a_law_pen, e_law_pen, m_law_pen, F_law_pen.kp, b_law_pen, d_law_pen T hB  F_law_pen⟩
  have C_law_draw : Cal P w K mg base cl "_law_draw" t_law_draw 1 ["_law_pen_here", "_law_many"] g_law_draw := ⟨a_law_draw, e_law_draw, m_law_draw, F_law_draw, b_law_draw, d_law_draw T hB  F_law_draw⟩
  have C_law_is_name : Cal P w K mg base cl "_law_is_name" t_law_is_name 1 ["_law_entry"] g_law_is_name := ⟨a_law_is_name, e_law_is_name, m_law_is_name, F_law_is_name, b_law_is_name, d_law_is_name T hB  F_law_is_name⟩
  have C_law_is_word : Cal P w K mg base cl "_law_is_word" t_law_is_word 2 ["_law_entry"] g_law_is_word := ⟨a_law_is_word, e_law_is_word, m_law_is_word, F_law_is_word, b_law_is_word, d_law_is_word T hB C_law_is_name F_law_is_word⟩
  have C_law_is_variable : Cal P w K mg base cl "_law_is_variable" t_law_is_variable 1 ["_law_entry"] g_law_is_variable := ⟨a_law_is_variable, e_law_is_variable, m_law_is_variable, F_law_is_variable, b_law_is_variable, d_law_is_variable T hB  F_law_is_variable⟩
  have C_law_letters : Cal P w K mg base cl "_law_letters" t_law_letters 2 ["_law_pen_here", "_law_signs", "_law_least", "_law_most"] g_law_letters := ⟨a_law_letters, e_law_letters, m_law_letters, F_law_letters, b_law_letters, d_law_letters T hB C_law_draw F_law_letters⟩
  have C_law_text : Cal P w K mg base cl "_law_text" t_law_text 3 ["_law_pen_here"] g_law_text := ⟨a_law_text, e_law_text, m_law_text, F_law_text, b_law_text, d_law_text T hB C_law_draw C_law_letters F_law_text⟩
  have C_law_bent : Cal P w K mg base cl "_law_bent" t_law_bent 2 ["_law_pen_here", "_law_text_here"] g_law_bent := ⟨a_law_bent, e_law_bent, m_law_bent, F_law_bent, b_law_bent, d_law_bent T hB C_law_draw F_law_bent⟩
  have C_InvalidTerm_init__ : MkX P w K mg base (cl 1) "InvalidTerm.__init__" t_InvalidTerm_init__ 1 ["self", "thing"] ["thing"] := by
    obtain ⟨xB, xN, xM, xT⟩ := xcb_Value xh_InvalidTerm xo_InvalidTerm XC_InvalidTerm.hd xs_InvalidTerm
    exact ⟨⟨xB, xN, _, xM, _, _, xT, xm_InvalidTerm, xt_InvalidTerm, xk_InvalidTerm, (List.forall_mem_cons.2 ⟨xn_InvalidTerm_thing, (fun _ h => nomatch h)⟩), F_InvalidTerm_init__, b_InvalidTerm_init__, d_InvalidTerm_init__ F_InvalidTerm_init__ B_NeverError⟩, rfl⟩
  have C_InvalidRule_init__ : MkX P w K mg base (cl 2) "InvalidRule.__init__" t_InvalidRule_init__ 1 ["self", "reason"] ["reason"] := by
    obtain ⟨xB, xN, xM, xT⟩ := xcb_Value xh_InvalidRule xo_InvalidRule XC_InvalidRule.hd xs_InvalidRule
    exact ⟨⟨xB, xN, _, xM, _, _, xT, xm_InvalidRule, xt_InvalidRule, xk_InvalidRule, (List.forall_mem_cons.2 ⟨xn_InvalidRule_reason, (fun _ h => nomatch h)⟩), F_InvalidRule_init__, b_InvalidRule_init__, d_InvalidRule_init__ F_InvalidRule_init__ B_NeverError⟩, rfl⟩
  have C_InvalidFunction_init__ : MkX P w K mg base (cl 3) "InvalidFunction.__init__" t_InvalidFunction_init__ 1 ["self", "reason"] ["reason"] := by
    obtain ⟨xB, xN, xM, xT⟩ := xcb_Value xh_InvalidFunction xo_InvalidFunction XC_InvalidFunction.hd xs_InvalidFunction
    exact ⟨⟨xB, xN, _, xM, _, _, xT, xm_InvalidFunction, xt_InvalidFunction, xk_InvalidFunction, (List.forall_mem_cons.2 ⟨xn_InvalidFunction_reason, (fun _ h => nomatch h)⟩), F_InvalidFunction_init__, b_InvalidFunction_init__, d_InvalidFunction_init__ F_InvalidFunction_init__ B_NeverError⟩, rfl⟩
  have C_InvalidPackage_init__ : MkX P w K mg base (cl 4) "InvalidPackage.__init__" t_InvalidPackage_init__ 1 ["self", "field", "index"] ["field", "index"] := by
    obtain ⟨xB, xN, xM, xT⟩ := xcb_Value xh_InvalidPackage xo_InvalidPackage XC_InvalidPackage.hd xs_InvalidPackage
    exact ⟨⟨xB, xN, _, xM, _, _, xT, xm_InvalidPackage, xt_InvalidPackage, xk_InvalidPackage, (List.forall_mem_cons.2 ⟨xn_InvalidPackage_field, (List.forall_mem_cons.2 ⟨xn_InvalidPackage_index, (fun _ h => nomatch h)⟩)⟩), F_InvalidPackage_init__, b_InvalidPackage_init__, d_InvalidPackage_init__ F_InvalidPackage_init__ B_NeverError⟩, rfl⟩
  have C_NoHouse_init__ : MkX P w K mg base (cl 5) "NoHouse.__init__" t_NoHouse_init__ 1 ["self", "reason", "name"] ["reason", "name"] := by
    obtain ⟨xB, xN, xM, xT⟩ := xcb_Value xh_NoHouse xo_NoHouse XC_NoHouse.hd xs_NoHouse
    exact ⟨⟨xB, xN, _, xM, _, _, xT, xm_NoHouse, xt_NoHouse, xk_NoHouse, (List.forall_mem_cons.2 ⟨xn_NoHouse_reason, (List.forall_mem_cons.2 ⟨xn_NoHouse_name, (fun _ h => nomatch h)⟩)⟩), F_NoHouse_init__, b_NoHouse_init__, d_NoHouse_init__ F_NoHouse_init__ B_NeverError⟩, rfl⟩
  have C_Refused_init__ : MkX P w K mg base (cl 6) "Refused.__init__" t_Refused_init__ 1 ["self", "complaints"] ["complaints"] := by
    obtain ⟨xB, xN, xM, xT⟩ := xcb_Value xh_Refused xo_Refused XC_Refused.hd xs_Refused
    exact ⟨⟨xB, xN, _, xM, _, _, xT, xm_Refused, xt_Refused, xk_Refused, (List.forall_mem_cons.2 ⟨xn_Refused_complaints, (fun _ h => nomatch h)⟩), F_Refused_init__, b_Refused_init__, d_Refused_init__ F_Refused_init__ B_NeverError⟩, rfl⟩
  have C_NotNext_init__ : MkX P w K mg base (cl 7) "NotNext.__init__" t_NotNext_init__ 1 ["self", "field", "index"] ["field", "index"] := by
    obtain ⟨xB, xN, xM, xT⟩ := xcb_Value xh_NotNext xo_NotNext XC_NotNext.hd xs_NotNext
    exact ⟨⟨xB, xN, _, xM, _, _, xT, xm_NotNext, xt_NotNext, xk_NotNext, (List.forall_mem_cons.2 ⟨xn_NotNext_field, (List.forall_mem_cons.2 ⟨xn_NotNext_index, (fun _ h => nomatch h)⟩)⟩), F_NotNext_init__, b_NotNext_init__, d_NotNext_init__ F_NotNext_init__ B_NeverError⟩, rfl⟩
  have C_Mismatch_init__ : MkX P w K mg base (cl 8) "Mismatch.__init__" t_Mismatch_init__ 1 ["self", "name", "other"] ["name", "other"] := by
    obtain ⟨xB, xN, xM, xT⟩ := xcb_Value xh_Mismatch xo_Mismatch XC_Mismatch.hd xs_Mismatch
    exact ⟨⟨xB, xN, _, xM, _, _, xT, xm_Mismatch, xt_Mismatch, xk_Mismatch, (List.forall_mem_cons.2 ⟨xn_Mismatch_name, (List.forall_mem_cons.2 ⟨xn_Mismatch_other, (fun _ h => nomatch h)⟩)⟩), F_Mismatch_init__, b_Mismatch_init__, d_Mismatch_init__ F_Mismatch_init__ B_NeverError⟩, rfl⟩
  have C_BadPaper_init__ : MkX P w K mg base (cl 9) "BadPaper.__init__" t_BadPaper_init__ 1 ["self", "index"] ["index"] := by
    obtain ⟨xB, xN, xM, xT⟩ := xcb_Value xh_BadPaper xo_BadPaper XC_BadPaper.hd xs_BadPaper
    exact ⟨⟨xB, xN, _, xM, _, _, xT, xm_BadPaper, xt_BadPaper, xk_BadPaper, (List.forall_mem_cons.2 ⟨xn_BadPaper_index, (fun _ h => nomatch h)⟩), F_BadPaper_init__, b_BadPaper_init__, d_BadPaper_init__ F_BadPaper_init__ B_NeverError⟩, rfl⟩
  have C_InvalidText_init__ : MkX P w K mg base (cl 10) "InvalidText.__init__" t_InvalidText_init__ 1 ["self", "line"] ["line"] := by
    obtain ⟨xB, xN, xM, xT⟩ := xcb_Value xh_InvalidText xo_InvalidText XC_InvalidText.hd xs_InvalidText
    exact ⟨⟨xB, xN, _, xM, _, _, xT, xm_InvalidText, xt_InvalidText, xk_InvalidText, (List.forall_mem_cons.2 ⟨xn_InvalidText_line, (fun _ h => nomatch h)⟩), F_InvalidText_init__, b_InvalidText_init__, d_InvalidText_init__ F_InvalidText_init__ B_NeverError⟩, rfl⟩
  have C_InvalidCommand_init__ : MkX P w K mg base (cl 11) "InvalidCommand.__init__" t_InvalidCommand_init__ 1 ["self", "word"] ["word"] := by
    obtain ⟨xB, xN, xM, xT⟩ := xcb_Value xh_InvalidCommand xo_InvalidCommand XC_InvalidCommand.hd xs_InvalidCommand
    exact ⟨⟨xB, xN, _, xM, _, _, xT, xm_InvalidCommand, xt_InvalidCommand, xk_InvalidCommand, (List.forall_mem_cons.2 ⟨xn_InvalidCommand_word, (fun _ h => nomatch h)⟩), F_InvalidCommand_init__, b_InvalidCommand_init__, d_InvalidCommand_init__ F_InvalidCommand_init__ B_NeverError⟩, rfl⟩
  have C_InvalidLimit_init__ : MkX P w K mg base (cl 12) "InvalidLimit.__init__" t_InvalidLimit_init__ 1 ["self", "limit"] ["limit"] := by
    obtain ⟨xB, xN, xM, xT⟩ := xcb_Value xh_InvalidLimit xo_InvalidLimit XC_InvalidLimit.hd xs_InvalidLimit
    exact ⟨⟨xB, xN, _, xM, _, _, xT, xm_InvalidLimit, xt_InvalidLimit, xk_InvalidLimit, (List.forall_mem_cons.2 ⟨xn_InvalidLimit_limit, (fun _ h => nomatch h)⟩), F_InvalidLimit_init__, b_InvalidLimit_init__, d_InvalidLimit_init__ F_InvalidLimit_init__ B_NeverError⟩, rfl⟩
  have C_UnknownWord_init__ : MkX P w K mg base (cl 13) "UnknownWord.__init__" t_UnknownWord_init__ 1 ["self", "word"] ["word"] := by
    obtain ⟨xB, xN, xM, xT⟩ := xcb_Key xh_UnknownWord xo_UnknownWord XC_UnknownWord.hd xs_UnknownWord
    exact ⟨⟨xB, xN, _, xM, _, _, xT, xm_UnknownWord, xt_UnknownWord, xk_UnknownWord, (List.forall_mem_cons.2 ⟨xn_UnknownWord_word, (fun _ h => nomatch h)⟩), F_UnknownWord_init__, b_UnknownWord_init__, d_UnknownWord_init__ F_UnknownWord_init__ B_KeyError⟩, rfl⟩
  have C_NoAnswer_init__ : MkX P w K mg base (cl 14) "NoAnswer.__init__" t_NoAnswer_init__ 1 ["self", "question"] ["question"] := by
    obtain ⟨xB, xN, xM, xT⟩ := xcb_Key xh_NoAnswer xo_NoAnswer XC_NoAnswer.hd xs_NoAnswer
    exact ⟨⟨xB, xN, _, xM, _, _, xT, xm_NoAnswer, xt_NoAnswer, xk_NoAnswer, (List.forall_mem_cons.2 ⟨xn_NoAnswer_question, (fun _ h => nomatch h)⟩), F_NoAnswer_init__, b_NoAnswer_init__, d_NoAnswer_init__ F_NoAnswer_init__ B_KeyError⟩, rfl⟩
  have C_NoEdition_init__ : MkX P w K mg base (cl 15) "NoEdition.__init__" t_NoEdition_init__ 1 ["self", "name", "edition"] ["name", "edition"] := by
    obtain ⟨xB, xN, xM, xT⟩ := xcb_Key xh_NoEdition xo_NoEdition XC_NoEdition.hd xs_NoEdition
    exact ⟨⟨xB, xN, _, xM, _, _, xT, xm_NoEdition, xt_NoEdition, xk_NoEdition, (List.forall_mem_cons.2 ⟨xn_NoEdition_name, (List.forall_mem_cons.2 ⟨xn_NoEdition_edition, (fun _ h => nomatch h)⟩)⟩), F_NoEdition_init__, b_NoEdition_init__, d_NoEdition_init__ F_NoEdition_init__ B_KeyError⟩, rfl⟩
  have C_NothingToUndo_init__ : MkX P w K mg base (cl 16) "NothingToUndo.__init__" t_NothingToUndo_init__ 1 ["self"] [] := by
    obtain ⟨xB, xN, xM, xT⟩ := xcb_Lookup xh_NothingToUndo xo_NothingToUndo XC_NothingToUndo.hd xs_NothingToUndo
    exact ⟨⟨xB, xN, _, xM, _, _, xT, xm_NothingToUndo, xt_NothingToUndo, xk_NothingToUndo, (fun _ h => nomatch h), F_NothingToUndo_init__, b_NothingToUndo_init__, d_NothingToUndo_init__ F_NothingToUndo_init__ B_LookupError⟩, rfl⟩
  have C_TooMany_init__ : MkX P w K mg base (cl 17) "TooMany.__init__" t_TooMany_init__ 1 ["self", "limit"] ["limit"] := by
    obtain ⟨xB, xN, xM, xT⟩ := xcb_Overflow xh_TooMany xo_TooMany XC_TooMany.hd xs_TooMany
    exact ⟨⟨xB, xN, _, xM, _, _, xT, xm_TooMany, xt_TooMany, xk_TooMany, (List.forall_mem_cons.2 ⟨xn_TooMany_limit, (fun _ h => nomatch h)⟩), F_TooMany_init__, b_TooMany_init__, d_TooMany_init__ F_TooMany_init__ B_OverflowError⟩, rfl⟩
  have C_law_made : Cal P w K mg base cl "_law_made" t_law_made 3 ["_law_a", "_law_b"] g_law_made := ⟨a_law_made, e_law_made, m_law_made, F_law_made, b_law_made, d_law_made T hB C_InvalidTerm_init__ C_InvalidRule_init__ C_InvalidFunction_init__ C_InvalidPackage_init__ C_NoHouse_init__ C_Refused_init__ C_NotNext_init__ C_Mismatch_init__ C_BadPaper_init__ C_InvalidText_init__ C_InvalidCommand_init__ C_InvalidLimit_init__ C_UnknownWord_init__ C_NoAnswer_init__ C_NoEdition_init__ C_NothingToUndo_init__ C_TooMany_init__ F_law_made⟩
  have C_law_marks : Cal P w K mg base cl "_law_marks" t_law_marks 1 ["_law_error"] g_law_marks := ⟨a_law_marks, e_law_marks, m_law_marks, F_law_marks, b_law_marks, d_law_marks T hB  F_law_marks⟩
  have C_law_classes_right : Cal P w K mg base cl "_law_classes_right" t_law_classes_right 4 ["_law_a", "_law_b"] g_law_classes_right := ⟨a_law_classes_right, e_law_classes_right, m_law_classes_right, F_law_classes_right, b_law_classes_right, d_law_classes_right T hB C_law_made C_law_marks F_law_classes_right⟩
  have C_law_fields_right : Cal P w K mg base cl "_law_fields_right" t_law_fields_right 3 ["_law_a", "_law_b"] g_law_fields_right := ⟨a_law_fields_right, e_law_fields_right, m_law_fields_right, F_law_fields_right, b_law_fields_right, d_law_fields_right T hB C_InvalidTerm_init__ C_InvalidRule_init__ C_InvalidFunction_init__ C_InvalidPackage_init__ C_NoHouse_init__ C_Refused_init__ C_NotNext_init__ C_Mismatch_init__ C_BadPaper_init__ C_InvalidText_init__ C_InvalidCommand_init__ C_InvalidLimit_init__ C_UnknownWord_init__ C_NoAnswer_init__ C_NoEdition_init__ C_TooMany_init__ F_law_fields_right⟩
  exact d_law T hB C_is_name C_is_word C_is_variable C_law_pen C_law_draw C_law_is_name C_law_is_word C_law_is_variable C_law_text C_law_bent C_law_classes_right C_law_fields_right F_law
end P01
set_option Elab.async false
set_option linter.all false
set_option maxRecDepth 100000
set_option maxHeartbeats 400000
namespace P01
open PySem L2 Nv
local macro_rules | `(tactic| walk_at "stE") => `(tactic| with_reducible first | refine wp_mu ?_ | refine wp_sif ?_ | refine wp_callR ?_ | refine wp_setLen ?_ | refine wp_tab ?_ | refine wp_orV ?_ | refine wp_isiC ?_ | refine wp_isi2 ?_ | refine wp_callT ?_ | refine wp_cmK ?_ | refine wp_newVK ?_ | refine wp_tup ?_ | refine wp_isi ?_ | refine wp_app ?_ | refine wp_ext ?_ | refine wp_sl ?_ | refine wp_get2 ?_ | refine wp_sand ?_ | refine wp_chain ?_ | refine wp_sor ?_ | refine wp_neg ?_ | refine wp_pop ?_ | refine wp_pop0 ?_ | refine wp_callO ?_ | refine wp_callV ?_ | refine wp_snot ?_ | refine wp_att ?_ | refine wp_prop ?_ | refine wp_methG ?_ | refine wp_cm ?_ | refine wp_new ?_ | refine wp_newV ?_ | refine wp_gsD ?_ | refine wp_gsO ?_)
local macro_rules | `(tactic| walk_at "stS") => `(tactic| with_reducible first | refine wp_ret ?_ | refine wp_drop ?_ | refine wp_ifs ?_ | refine wp_put ?_ | refine wp_setix ?_ | refine wp_for ?_ | refine wp_asg ?_ | refine wp_lock ?_ | refine wp_par ?_ | refine wp_store ?_)
local macro_rules | `(tactic| walk_at "stF") => `(tactic| with_reducible first | refine wp_setSorted ?_ | refine wp_lst ?_ | refine wp_mt ?_ | refine wp_lc ?_ | refine wp_rev ?_ | refine wp_s2 ?_ | refine wp_dc ?_ | refine wp_listZip ?_ | refine wp_flock ?_ | refine wp_fLc2 ?_)
local macro_rules | `(tactic| walk_at "stI") => `(tactic| with_reducible first | refine wp_enuA ?_ | refine wp_iof ?_ | refine wp_range1 ?_ | refine wp_enu ?_ | refine wp_zip ?_ | refine wp_range2 ?_)
local macro_rules | `(tactic| walk_at "stB") => `(tactic| with_reducible first | refine wp_btru ?_ | refine wp_bnot ?_ | refine wp_band ?_ | refine wp_bor ?_)
local macro_rules | `(tactic| walk_at "stA") => `(tactic| with_reducible first | refine wp_perm ?_ | refine wp_star ?_)
local macro_rules | `(tactic| walk_at "stR") => `(tactic| first
  | with_reducible refine wp_oseq ?_
  | with_reducible refine wp_oret ?_
  | with_reducible refine wp_mod (by omega) ?_
  | with_reducible refine wp_fdiv (by omega) ?_
  | with_reducible refine wp_mul (by omega) ?_
  | (with_reducible refine wp_val isi_T ?_; try dsimp only)
  | (with_reducible refine wp_val sl1 ?_; try dsimp only)
  | (with_reducible refine wp_val ix0 ?_; try dsimp only)
  | (with_reducible refine wp_val ix0L ?_; try dsimp only)
  | (with_reducible refine wp_val isi_F ?_; try dsimp only)
  | (refine wp_val rfl ?_; try dsimp only [List.set_cons_zero, List.set_cons_succ, wipeR, List.length_nil, List.nil_append])
  | (refine ⟨_, rfl, ?_⟩; try dsimp only)
  | (refine ⟨Nat.le_of_ble_eq_true rfl, ?_⟩; try dsimp only [List.set_cons_zero, List.set_cons_succ, wipeR, List.length_nil, List.nil_append])
  | refine ⟨fun _ => ?_, fun h => absurd h (by decide)⟩
  | refine ⟨fun h => absurd h (by decide), fun _ => ?_⟩
  | refine ⟨(rfl : isDct _ = true), ?_⟩
  | (refine ⟨nd0, ?_⟩; try dsimp only [List.set_cons_zero, List.set_cons_succ, wipeR, List.length_nil, List.nil_append])
  | (refine ⟨nd1 _, ?_⟩; try dsimp only [List.set_cons_zero, List.set_cons_succ, wipeR, List.length_nil, List.nil_append])
  | (refine ⟨nd01, ?_⟩; try dsimp only [List.set_cons_zero, List.set_cons_succ, wipeR, List.length_nil, List.nil_append])
  | (refine ⟨by decide, ?_⟩; try dsimp only [List.set_cons_zero, List.set_cons_succ, wipeR, List.length_nil, List.nil_append]))
local macro_rules | `(tactic| walk_at "st2") => `(tactic| first | (with_reducible refine ty_E ?_; walk_at "stE") | (with_reducible refine ty_S ?_; walk_at "stS") | (with_reducible refine ty_F ?_; walk_at "stF") | (with_reducible refine ty_I ?_; walk_at "stI") | (with_reducible refine ty_B ?_; walk_at "stB") | (with_reducible refine ty_A ?_; walk_at "stA") | walk_at "stR")
local macro_rules | `(tactic| walk_at "st") => `(tactic| first
  | ((with_reducible first | refine lf_var ?_ | refine lf_view ?_ | refine lf_sc ?_ | refine lf_anil ?_ | refine lf_views ?_ | refine lf_pre ?_ | refine lf_fin ?_ | refine lf_putb ?_ | refine lf_tod ?_ | refine lf_nx ?_ | refine lf_gn ?_ | refine lf_bys ?_); refine wp_val rfl ?_; try dsimp only [List.set_cons_zero, List.set_cons_succ, wipeR, List.length_nil, List.nil_append])
  | (with_reducible first | refine wp_acons ?_ | refine wp_op ?_ | refine wp_fz ?_ | refine wp_set ?_ | refine wp_seq ?_ | refine wp_call ?_ | refine wp_n ?_ | refine wp_bof ?_)
  | walk_at "st2")
theorem q_draw : g_law_draw = fDraw := rfl
def letL : List Nat := ("abcdefghijklmnopqrstuvwxyz" : Str).cps.toList
def capL : List Nat := ("ABCDEFGHIJKLMNOPQRSTUVWXYZ" : Str).cps.toList
def digL : List Nat := ("0123456789" : Str).cps.toList
def brd (s : Str) : Bool := [D.str ("self" : Str), D.str ("head" : Str)].any fun z => eqF z (D.str s)
def nmS (s : Str) : Bool := decide (1 ≤ s.length) && decide (s.length ≤ 8) && !brd s && s.cps.toList.all fun c => decide (c ∈ letL)
theorem bls_map {A : Type} (F : A → Bool) : ∀ l : List A, blsOf (l.map fun c => .bl (F c)) = some (l.map F)
  | [] => rfl
  | c :: l => by simp only [List.map_cons, blsOf, bls_map F l, Option.map_some]
theorem all_map {A : Type} (F : A → Bool) (l : List A) : dAll [.lst (l.map fun c => .bl (F c))] = .ok (.bl (l.all F)) := by
  simp only [dAll, bls_map, ofO, ok_bind]
  congr 2
  induction l with
  | nil => rfl
  | cons c l ih => simp [List.all_cons]
theorem slen (s : Str) : s.cps.toList.length = s.length := by simp [Str.length]
theorem name_p {s : Str} (hs : s.length ≤ 300000) : g_is_name [.v (.str s)] = .ok (.bl (nmS s), []) := by
  have ez : sizeLine = 16777216 := rfl
  have hlen : dLen [.str s] = .ok (.int s.length) := if_pos (by omega)
  refine wp_eq ?_
  refine wp_fn ?_
  show wp (b_is_name [.val (.str s), .un] []) _
  unfold b_is_name
  repeat walk_at "st"
  refine wp_val hlen ?_
  repeat walk_at "st"
  have tail : (decide (1 ≤ s.length) && decide (s.length ≤ 8)) = true → brd s = false → wp (dAll [.lst (s.cps.toList.map fun c => .bl (decide (c ∈ letL)))]) fun d => d = .bl (nmS s) := by
    intro h1 h2
    refine wp_val (all_map _ _) ?_
    unfold nmS
    rw [h1, h2]; simp
  by_cases h1 : 1 ≤ s.length
  · by_cases h2 : s.length ≤ 8
    · refine ⟨fun _ => ?_, fun h => absurd (of_decide_eq_false h) (by omega)⟩
      repeat walk_at "st"
      refine ⟨fun h => absurd h (by simp; omega), fun _ => ?_⟩
      repeat walk_at "st"
      rw [show ([D.str ("self" : Str), D.str ("head" : Str)].any fun z => eqF z (D.str s)) = brd s from rfl]
      cases hb : brd s with
      | true =>
        repeat walk_at "st"
        unfold nmS
        rw [hb]; simp
      | false =>
        repeat walk_at "st"
        refine wp_lcG (fun c : Nat => D.str ⟨#[c]⟩) (fun c => .bl (decide (c ∈ letL))) s.cps.toList _ (by rw [slen]; omega) (fun c hc => ?_) ?_
        · repeat walk_at "st"
          rfl
        repeat walk_at "st"
        refine wp_mono (tail (by rw [decide_eq_true h1, decide_eq_true h2]; rfl) hb) ?_
        rintro _ rfl
        repeat walk_at "st"
    · refine ⟨fun _ => ?_, fun h => absurd (of_decide_eq_false h) (by omega)⟩
      repeat walk_at "st"
      refine ⟨fun _ => ?_, fun h => absurd h (by simp; omega)⟩
      repeat walk_at "st"
      unfold nmS
      rw [decide_eq_false h2]; simp
  · refine ⟨fun h => absurd (of_decide_eq_true h) (by omega), fun _ => ?_⟩
    repeat walk_at "st"
    unfold nmS
    rw [decide_eq_false h1]; simp
open Builtin.Str in
theorem split_len (s : Str) : (Txt.split s ".").length = (occurrences s "." 0 s.length (s.length + 1)).length + 1 := by
  unfold Txt.split
  have hk : ¬ Builtin.Str.strKind s < Builtin.Str.strKind "." := by
    have : Builtin.Str.strKind "." = 1 := by decide +kernel
    rw [this]
    unfold Builtin.Str.strKind
    split
    · omega
    · split <;> omega
  have h1 : (("." : String) : Str).length = 1 := rfl
  by_cases h0 : s.length < (("." : String) : Str).length
  · rw [if_pos (by simp [h0])]
    have : occurrences s "." 0 s.length (s.length + 1) = [] := by
      cases h : occurrences s "." 0 s.length (s.length + 1) with
      | nil => rfl
      | cons i r =>
        have := (StrLaws.occ_spec s "." 0 s.length (s.length + 1) i (by rw [h]; simp)).1
        omega
    rw [this]; rfl
  · rw [if_neg (by simp [h0, hk])]
    cases h : occurrences s "." 0 s.length (s.length + 1) with
    | nil => rfl
    | cons i r =>
      rw [if_neg (by simp)]
      unfold partsBetween
      simp
open Builtin.Str in
theorem sub_in (s : Str) (i j : Nat) : (∀ c ∈ (strSub s i j).cps.toList, c ∈ s.cps.toList) ∧ (strSub s i j).length ≤ s.length := by
  unfold strSub
  constructor
  · intro c hc
    simp only [Array.toList_extract, List.extract_eq_take_drop] at hc
    exact List.mem_of_mem_drop (List.mem_of_mem_take hc)
  · simp [Str.length]
    omega
open Builtin.Str in
theorem split_in (s : Str) : ∀ p ∈ Txt.split s ".", (∀ c ∈ p.cps.toList, c ∈ s.cps.toList) ∧ p.length ≤ s.length := by
  intro p hp
  unfold Txt.split at hp
  split at hp
  · simp at hp; subst hp; exact ⟨fun c h => h, Nat.le_refl _⟩
  · split at hp
    · simp at hp; subst hp; exact ⟨fun c h => h, Nat.le_refl _⟩
    · unfold partsBetween at hp
      obtain ⟨q, _, rfl⟩ := List.mem_map.mp hp
      exact sub_in s q.1 q.2
structure SkL (s : Str) : Prop where
  ok : PyData.strOk s = true
  len : s.length ≤ 300000
theorem SkL.part {s p : Str} (h : SkL s) (hp : p ∈ Txt.split s ".") : SkL p := by
  obtain ⟨h1, h2⟩ := split_in s p hp
  have := h.len
  exact ⟨sok_iff.mpr fun c hc => sok_iff.mp h.ok c (h1 c hc), by omega⟩
def wdS (s : Str) : Bool := decide ((Txt.split s ".").length = 2) && (Txt.split s ".").all nmS
theorem dsplit {s : Str} (h : SkL s) : dSplit (.str s) [.str "."] = .ok (.lst ((Txt.split s ".").map .str)) := if_pos ⟨rfl, by have := h.len; show s.length + 2 ≤ 16777216; omega⟩
theorem word_p {s : Str} (h : SkL s) : g_is_word [.v (.str s)] = .ok (.bl (wdS s), []) := by
  refine wp_eq ?_
  refine wp_fn ?_
  show wp (b_is_word [.val (.str s), .un] []) _
  unfold b_is_word
  have hpt := fun p hp => (h.part (p := p) hp).len
  have hsp := dsplit h
  unfold wdS
  generalize Txt.split s "." = ps at hpt hsp
  repeat walk_at "st"
  refine ⟨rfl, ?_⟩
  repeat walk_at "st"
  refine wp_val hsp ?_
  repeat walk_at "st"
  by_cases hl : ps.length = 2
  · match ps, hl with
    | [a, b], _ =>
      have e : (PyData.int (([a, b].map D.str).length : Nat)).eqv (PyData.int 2) = true := by simp [PyData.eqv]
      rw [e]
      repeat walk_at "st"
      refine wp_val (name_p (hpt a (by simp))) ?_
      cases ha : nmS a with
      | false =>
        repeat walk_at "st"
        simp [ha]
      | true =>
        repeat walk_at "st"
        refine wp_val (name_p (hpt b (by simp))) ?_
        repeat walk_at "st"
        simp [ha]
  · have e : (PyData.int ((ps.map D.str).length : Nat)).eqv (PyData.int 2) = false := by
      simp only [PyData.eqv, beq_eq_false_iff_ne, List.length_map]; omega
    rw [e]
    repeat walk_at "st"
    rw [decide_eq_false hl]; rfl
theorem len_p {s : Str} (h : SkL s) : dLen [.str s] = .ok (.int s.length) := if_pos (by have := h.len; show s.length ≤ 16777216; omega)
/-- the signs of a text that are not among some -/
theorem odd_ne {s : Str} (h : SkL s) (p : Nat → Bool) : dNe (.lst ((s.cps.toList.filter p).map fun c => .str ⟨#[c]⟩)) (.lst []) = .ok (.bl (!(s.cps.toList.filter p).isEmpty)) := by
  rw [nice_ne fun d hd => ?_]
  · simp
  · obtain ⟨c, hc, rfl⟩ := List.mem_map.mp hd
    have hc := sok_iff.mp h.ok c (List.mem_filter.mp hc).1
    exact (Nice.str (sok_iff.mpr fun d hd => by simp at hd; subst hd; exact hc)).mono (by omega)
def hdS (s : Str) : Bool := match s.cps.toList with
  | c :: _ => decide (c ∈ capL)
  | [] => false
def vrS (s : Str) : Bool := decide (1 ≤ s.length) && decide (s.length ≤ 4) && hdS s && (s.cps.toList.drop 1).all fun c => decide (c ∈ digL)
theorem cutS1 (s : Str) : (cutS s (some 1) none).cps.toList = s.cps.toList.drop 1 := by
  unfold cutS
  rw [show (1 : Int) = ((1 : Nat) : Int) from rfl, HT.sIx_nat, HT.sIx_none]
  have hs : s.cps.size = s.cps.toList.length := by simp
  simp only [Str.length, hs]
  cases s.cps.toList with
  | nil => simp
  | cons c cs => simp
theorem sl_p {s : Str} (h : SkL s) {lo hi : Option Int} : dSl (.str s) lo hi = .ok (.str (cutS s lo hi)) := if_pos (by have := h.len; show s.length ≤ 16777216; omega)
theorem ix_p {s : Str} (h : SkL s) {c : Nat} {cs : List Nat} (e : s.cps.toList = c :: cs) : dIx (.str s) (.int 0) = .ok (.str ⟨#[c]⟩) := by
  refine wp_eq (wp_ixS (c := c) (by have := h.len; show s.length ≤ 16777216; omega) ?_ rfl)
  rw [e]; exact at0
theorem var_p {s : Str} (h : SkL s) : g_is_variable [.v (.str s)] = .ok (.bl (vrS s), []) := by
  have ez : sizeLine = 16777216 := rfl
  have hsl := slen s
  have hlen := h.len
  refine wp_eq ?_
  refine wp_fn ?_
  show wp (b_is_variable [.val (.str s), .un] []) _
  unfold b_is_variable
  repeat walk_at "st"
  refine wp_val (len_p h) ?_
  repeat walk_at "st"
  cases hcs : s.cps.toList with
  | nil =>
    rw [hcs] at hsl
    have hl : s.length = 0 := by simpa using hsl.symm
    refine ⟨fun hq => absurd (of_decide_eq_true hq) (by omega), fun _ => ?_⟩
    repeat walk_at "st"
    unfold vrS
    rw [decide_eq_false (show ¬ 1 ≤ s.length by omega)]; rfl
  | cons c cs =>
    rw [hcs] at hsl
    have hl : s.length = cs.length + 1 := by simpa using hsl.symm
    refine ⟨fun _ => ?_, fun hq => absurd (of_decide_eq_false hq) (by omega)⟩
    repeat walk_at "st"
    by_cases h2 : s.length ≤ 4
    · refine ⟨fun hq => absurd hq (by simp; omega), fun _ => ?_⟩
      repeat walk_at "st"
      refine wp_val (ix_p h hcs) ?_
      have hh : hdS s = decide (c ∈ capL) := by unfold hdS; rw [hcs]
      repeat walk_at "st"
      cases hc : decide (c ∈ capL) with
      | false =>
        refine ⟨fun _ => ?_, fun hq => ?_⟩
        · repeat walk_at "st"
          unfold vrS
          rw [hh, hc]; simp
        · rw [show decide (c ∈ (("ABCDEFGHIJKLMNOPQRSTUVWXYZ" : String) : Str).cps.toList) = false from hc] at hq
          cases hq
      | true =>
        refine ⟨fun hq => ?_, fun _ => ?_⟩
        · rw [show decide (c ∈ (("ABCDEFGHIJKLMNOPQRSTUVWXYZ" : String) : Str).cps.toList) = true from hc] at hq
          cases hq
        repeat walk_at "st"
        refine wp_val (sl_p h) ?_
        repeat walk_at "st"
        rw [cutS1]
        refine wp_lcG (fun c : Nat => D.str ⟨#[c]⟩) (fun c => .bl (decide (c ∈ digL))) (s.cps.toList.drop 1) _ (by rw [List.length_drop, slen]; omega) (fun c hc => ?_) ?_
        · repeat walk_at "st"
          rfl
        repeat walk_at "st"
        refine wp_val (all_map _ _) ?_
        repeat walk_at "st"
        unfold vrS
        rw [hh, hc, decide_eq_true h2, decide_eq_true (show 1 ≤ s.length by omega)]; simp
    · refine ⟨fun _ => ?_, fun hq => absurd hq (by simp; omega)⟩
      repeat walk_at "st"
      unfold vrS
      rw [decide_eq_false h2]; simp
end P01
set_option Elab.async false
set_option linter.all false
set_option maxRecDepth 100000
set_option maxHeartbeats 4000000
namespace P01
open PySem L2 Nv
theorem cls_ok (a b : D) : g_law_classes_right [.v a, .v b] = .ok (.bl true, []) := by kernel_rfl
def odd : List D := [.non, .bl true, .int 0, .int 7, .str "", .tup [], .tup [.str "a"], .lst [.str "a"], .dct [], .tup [.str "a.b"], .str "self", .str "head", .str "self.a", .str "a.head", .str "a.b.c", .str "V0000"]
def fldT (i : Nat) : Bool := odd.all fun b => okB (g_law_fields_right [.v (odd.getD i .non), .v b]) true
theorem fld_0 : fldT 0 = true := by decide +kernel
theorem fld_1 : fldT 1 = true := by decide +kernel
theorem fld_2 : fldT 2 = true := by decide +kernel
theorem fld_3 : fldT 3 = true := by decide +kernel
theorem fld_4 : fldT 4 = true := by decide +kernel
theorem fld_5 : fldT 5 = true := by decide +kernel
theorem fld_6 : fldT 6 = true := by decide +kernel
theorem fld_7 : fldT 7 = true := by decide +kernel
theorem fld_8 : fldT 8 = true := by decide +kernel
theorem fld_9 : fldT 9 = true := by decide +kernel
theorem fld_10 : fldT 10 = true := by decide +kernel
theorem fld_11 : fldT 11 = true := by decide +kernel
theorem fld_12 : fldT 12 = true := by decide +kernel
theorem fld_13 : fldT 13 = true := by decide +kernel
theorem fld_14 : fldT 14 = true := by decide +kernel
theorem fld_15 : fldT 15 = true := by decide +kernel
theorem fld_all : ((List.range 16).all fldT) = true := by
  simp only [show List.range 16 = [0, 1, 2, 3, 4, 5, 6, 7, 8, 9, 10, 11, 12, 13, 14, 15] from rfl, List.all_cons, List.all_nil, fld_0, fld_1, fld_2, fld_3, fld_4, fld_5, fld_6, fld_7, fld_8, fld_9, fld_10, fld_11, fld_12, fld_13, fld_14, fld_15, Bool.and_true]
theorem fields_ok {a b : D} (ha : a ∈ odd) (hb : b ∈ odd) : g_law_fields_right [.v a, .v b] = .ok (.bl true, []) := by
  obtain ⟨i, hi, e⟩ := List.mem_iff_getElem.mp ha
  have h := List.all_eq_true.mp fld_all i (List.mem_range.mpr hi)
  have z := okB_eq (List.all_eq_true.mp h b hb)
  rw [show odd.getD i .non = a from by rw [List.getD_eq_getElem?_getD, List.getElem?_eq_getElem hi]; exact e] at z
  exact z
def oddT (d : D) : Bool := match g_is_name [.v d], g_law_is_name [.v d], g_is_word [.v d], g_law_is_word [.v d], g_is_variable [.v d], g_law_is_variable [.v d] with
  | .ok (.bl a, []), .ok (.bl a', []), .ok (.bl b, []), .ok (.bl b', []), .ok (.bl c, []), .ok (.bl c', []) => a == a' && (b == b' && c == c')
  | _, _, _, _, _, _ => false
def Same6 (d : D) : Prop := ∃ a b c : Bool, g_is_name [.v d] = .ok (.bl a, []) ∧ g_law_is_name [.v d] = .ok (.bl a, []) ∧ g_is_word [.v d] = .ok (.bl b, []) ∧ g_law_is_word [.v d] = .ok (.bl b, []) ∧ g_is_variable [.v d] = .ok (.bl c, []) ∧ g_law_is_variable [.v d] = .ok (.bl c, [])
theorem same6_of {d : D} (h : oddT d = true) : Same6 d := by
  unfold oddT at h
  split at h
  · rename_i a a' b b' c c' e1 e2 e3 e4 e5 e6
    simp only [Bool.and_eq_true, beq_iff_eq] at h
    obtain ⟨rfl, rfl, rfl⟩ := h
    exact ⟨a, b, c, e1, e2, e3, e4, e5, e6⟩
  · cases h
def fixed : List D := [.str "int\n", .str "base.int\n", .str "int\n.a", .str "a.\nint", .str "T\n", .str "T0\n", .str "\nT", .str "\n"]
theorem odd_tab : ((odd ++ fixed).all oddT) = true := by decide +kernel
theorem same_odd {d : D} (h : d ∈ odd ++ fixed) : Same6 d := same6_of (List.all_eq_true.mp odd_tab d h)
end P01
set_option Elab.async false
set_option linter.all false
set_option maxRecDepth 100000
set_option maxHeartbeats 400000
namespace P01
open PySem L2 Nv
local macro_rules | `(tactic| walk_at "stE") => `(tactic| with_reducible first | refine wp_mu ?_ | refine wp_sif ?_ | refine wp_callR ?_ | refine wp_setLen ?_ | refine wp_tab ?_ | refine wp_orV ?_ | refine wp_isiC ?_ | refine wp_isi2 ?_ | refine wp_callT ?_ | refine wp_cmK ?_ | refine wp_newVK ?_ | refine wp_tup ?_ | refine wp_isi ?_ | refine wp_app ?_ | refine wp_ext ?_ | refine wp_sl ?_ | refine wp_get2 ?_ | refine wp_sand ?_ | refine wp_chain ?_ | refine wp_sor ?_ | refine wp_neg ?_ | refine wp_pop ?_ | refine wp_pop0 ?_ | refine wp_callO ?_ | refine wp_callV ?_ | refine wp_snot ?_ | refine wp_att ?_ | refine wp_prop ?_ | refine wp_methG ?_ | refine wp_cm ?_ | refine wp_new ?_ | refine wp_newV ?_ | refine wp_gsD ?_ | refine wp_gsO ?_)
local macro_rules | `(tactic| walk_at "stS") => `(tactic| with_reducible first | refine wp_ret ?_ | refine wp_drop ?_ | refine wp_ifs ?_ | refine wp_put ?_ | refine wp_setix ?_ | refine wp_for ?_ | refine wp_asg ?_ | refine wp_lock ?_ | refine wp_par ?_ | refine wp_store ?_)
local macro_rules | `(tactic| walk_at "stF") => `(tactic| with_reducible first | refine wp_setSorted ?_ | refine wp_lst ?_ | refine wp_mt ?_ | refine wp_lc ?_ | refine wp_rev ?_ | refine wp_s2 ?_ | refine wp_dc ?_ | refine wp_listZip ?_ | refine wp_flock ?_ | refine wp_fLc2 ?_)
local macro_rules | `(tactic| walk_at "stI") => `(tactic| with_reducible first | refine wp_enuA ?_ | refine wp_iof ?_ | refine wp_range1 ?_ | refine wp_enu ?_ | refine wp_zip ?_ | refine wp_range2 ?_)
local macro_rules | `(tactic| walk_at "stB") => `(tactic| with_reducible first | refine wp_btru ?_ | refine wp_bnot ?_ | refine wp_band ?_ | refine wp_bor ?_)
local macro_rules | `(tactic| walk_at "stA") => `(tactic| with_reducible first | refine wp_perm ?_ | refine wp_star ?_)
local macro_rules | `(tactic| walk_at "stR") => `(tactic| first
  | with_reducible refine wp_oseq ?_
  | with_reducible refine wp_oret ?_
  | with_reducible refine wp_mod (by omega) ?_
  | with_reducible refine wp_fdiv (by omega) ?_
  | with_reducible refine wp_mul (by omega) ?_
  | (with_reducible refine wp_val isi_T ?_; try dsimp only)
  | (with_reducible refine wp_val sl1 ?_; try dsimp only)
  | (with_reducible refine wp_val ix0 ?_; try dsimp only)
  | (with_reducible refine wp_val ix0L ?_; try dsimp only)
  | (with_reducible refine wp_val isi_F ?_; try dsimp only)
  | (refine wp_val rfl ?_; try dsimp only [List.set_cons_zero, List.set_cons_succ, wipeR, List.length_nil, List.nil_append])
  | (refine ⟨_, rfl, ?_⟩; try dsimp only)
  | (refine ⟨Nat.le_of_ble_eq_true rfl, ?_⟩; try dsimp only [List.set_cons_zero, List.set_cons_succ, wipeR, List.length_nil, List.nil_append])
  | refine ⟨fun _ => ?_, fun h => absurd h (by decide)⟩
  | refine ⟨fun h => absurd h (by decide), fun _ => ?_⟩
  | refine ⟨(rfl : isDct _ = true), ?_⟩
  | (refine ⟨nd0, ?_⟩; try dsimp only [List.set_cons_zero, List.set_cons_succ, wipeR, List.length_nil, List.nil_append])
  | (refine ⟨nd1 _, ?_⟩; try dsimp only [List.set_cons_zero, List.set_cons_succ, wipeR, List.length_nil, List.nil_append])
  | (refine ⟨nd01, ?_⟩; try dsimp only [List.set_cons_zero, List.set_cons_succ, wipeR, List.length_nil, List.nil_append])
  | (refine ⟨by decide, ?_⟩; try dsimp only [List.set_cons_zero, List.set_cons_succ, wipeR, List.length_nil, List.nil_append]))
local macro_rules | `(tactic| walk_at "st2") => `(tactic| first | (with_reducible refine ty_E ?_; walk_at "stE") | (with_reducible refine ty_S ?_; walk_at "stS") | (with_reducible refine ty_F ?_; walk_at "stF") | (with_reducible refine ty_I ?_; walk_at "stI") | (with_reducible refine ty_B ?_; walk_at "stB") | (with_reducible refine ty_A ?_; walk_at "stA") | walk_at "stR")
local macro_rules | `(tactic| walk_at "st") => `(tactic| first
  | ((with_reducible first | refine lf_var ?_ | refine lf_view ?_ | refine lf_sc ?_ | refine lf_anil ?_ | refine lf_views ?_ | refine lf_pre ?_ | refine lf_fin ?_ | refine lf_putb ?_ | refine lf_tod ?_ | refine lf_nx ?_ | refine lf_gn ?_ | refine lf_bys ?_); refine wp_val rfl ?_; try dsimp only [List.set_cons_zero, List.set_cons_succ, wipeR, List.length_nil, List.nil_append])
  | (with_reducible first | refine wp_acons ?_ | refine wp_op ?_ | refine wp_fz ?_ | refine wp_set ?_ | refine wp_seq ?_ | refine wp_call ?_ | refine wp_n ?_ | refine wp_bof ?_)
  | walk_at "st2")
open Builtin.Str in
theorem occ_one {s : Str} {i : Nat} (h : occurrences s "." 0 s.length (s.length + 1) = [i]) : occurrences s "." 0 s.length 1 = [i] ∧ i < s.length := by
  have l1 : (("." : String) : Str).length = 1 := rfl
  obtain ⟨f, ch, hf⟩ := StrLaws.occ_tight s "." (by rw [l1]; exact Nat.le_refl _)
  rw [h] at ch
  obtain ⟨_, hat, lt, rfl⟩ := ch
  have uniq : ∀ k, StrLaws.At s "." s.length k → k = i := fun k hk => by
    rcases Nat.lt_trichotomy k i with z | z | z
    · exact absurd hk (lt k (Nat.zero_le _) z)
    · exact z
    · exact absurd hk (hf k (by rw [l1]; exact z))
  have ne := (StrLaws.found_iff s ".").mpr ⟨i, hat.1, hat.2⟩
  have ll := StrLaws.occ_length_le s "." 0 s.length 1
  have hil : i < s.length := by have := hat.1; rw [l1] at this; omega
  cases q : occurrences s "." 0 s.length 1 with
  | nil => rw [q] at ne; cases ne
  | cons j r =>
    rw [q] at ll
    cases r with
    | cons _ _ => simp at ll
    | nil =>
      have := uniq j (StrLaws.occ_spec s "." 0 s.length 1 j (by rw [q]; simp))
      rw [this]
      exact ⟨rfl, hil⟩
open Builtin.Str in
theorem split_one {s : Str} {i : Nat} (h : occurrences s "." 0 s.length (s.length + 1) = [i]) (hi : i < s.length) : Txt.split s "." = [strSub s 0 i, strSub s (i + 1) s.length] := by
  unfold Txt.split
  have hk : ¬ Builtin.Str.strKind s < Builtin.Str.strKind "." := by
    have : Builtin.Str.strKind "." = 1 := by decide +kernel
    rw [this]
    unfold Builtin.Str.strKind
    split
    · omega
    · split <;> omega
  have h1 : (("." : String) : Str).length = 1 := rfl
  have h0 : ¬ s.length < (("." : String) : Str).length := by omega
  rw [if_neg (by simp [h0, hk]), h]
  rfl
theorem cut_lo {s : Str} {i : Nat} (h : i ≤ s.length) : cutS s none (some (i : Nat)) = Builtin.Str.strSub s 0 i := by
  unfold cutS Builtin.Str.strSub
  rw [HT.sIx_nat, HT.sIx_none, Nat.min_eq_left h]
  congr 1
  apply Array.toList_inj.mp
  simp [Array.toList_extract, List.extract_eq_take_drop]
theorem cut_hi {s : Str} {i : Nat} (h : i ≤ s.length) : cutS s (some (i : Nat)) none = Builtin.Str.strSub s i s.length := by
  unfold cutS Builtin.Str.strSub
  rw [HT.sIx_nat, HT.sIx_none, Nat.min_eq_left h]
  congr 1
  apply Array.toList_inj.mp
  simp [Array.toList_extract, List.extract_eq_take_drop]
theorem SkL.sub {s : Str} (h : SkL s) (i j : Nat) : SkL (Builtin.Str.strSub s i j) := by
  obtain ⟨h1, h2⟩ := sub_in s i j
  have := h.len
  exact ⟨sok_iff.mpr fun c hc => sok_iff.mp h.ok c (h1 c hc), by omega⟩
theorem eq_of_ne {x y : D} {b : Bool} (h : dNe x y = .ok (.bl b)) : dEq x y = .ok (.bl !b) := by
  unfold dNe at h
  unfold dEq
  obtain ⟨c, e1, e⟩ := bind_ok h
  rw [e1]
  cases e
  simp
theorem odd_eq {s : Str} (h : SkL s) (p : Nat → Bool) : dEq (.lst ((s.cps.toList.filter p).map fun c => .str ⟨#[c]⟩)) (.lst []) = .ok (.bl (s.cps.toList.filter p).isEmpty) := by
  have := eq_of_ne (odd_ne h p)
  simpa using this
theorem eq_str {s t : Str} (h : PyData.strOk s = true) (h' : PyData.strOk t = true) : dEq (.str s) (.str t) = .ok (.bl (s == t)) := by
  have e : dEqB (.str s) (.str t) = .ok (s == t) := by
    simp only [dEqB, D.py]
    rw [if_pos]
    · rfl
    · exact ⟨by simp only [Nv.SeqAt.shaped, PyData.canLay0, h, PyData.depth, Bool.true_and]; exact decide_eq_true (Nat.zero_le _), by simp only [Nv.SeqAt.shaped, PyData.canLay0, h', PyData.depth, Bool.true_and]; exact decide_eq_true (Nat.zero_le _)⟩
  unfold dEq
  rw [e]; rfl
theorem brd_or (s : Str) : brd s = (s == "self" || s == "head") := by
  unfold brd
  have f : ∀ a : Str, eqF (.str a) (.str s) = (s == a) := fun a => by
    show (a == s) = (s == a)
    by_cases e : a = s
    · subst e; rfl
    · rw [beq_eq_false_iff_ne.mpr e, beq_eq_false_iff_ne.mpr (Ne.symm e)]
  simp only [List.any_cons, List.any_nil, Bool.or_false, f]
theorem fil_all (l : List Nat) (q : Nat → Bool) : (l.filter fun c => !q c).isEmpty = l.all q := by
  induction l with
  | nil => rfl
  | cons c l ih =>
    rw [List.filter_cons, List.all_cons]
    cases q c <;> simp [ih]
theorem lname_p {s : Str} (h : SkL s) : g_law_is_name [.v (.str s)] = .ok (.bl (nmS s), []) := by
  have hlen := len_p h
  have hl := h.len
  have ez : sizeLine = 16777216 := rfl
  have hbr := brd_or s
  refine wp_eq ?_
  refine wp_fn ?_
  show wp (b_law_is_name [.val (.str s), .un] []) _
  unfold b_law_is_name
  repeat walk_at "st"
  refine wp_val hlen ?_
  repeat walk_at "st"
  by_cases h1 : 1 ≤ s.length
  · refine ⟨fun hq => absurd (of_decide_eq_true hq) (by omega), fun _ => ?_⟩
    repeat walk_at "st"
    refine wp_val hlen ?_
    repeat walk_at "st"
    by_cases h2 : s.length ≤ 8
    · refine ⟨fun hq => absurd (of_decide_eq_true hq) (by omega), fun _ => ?_⟩
      repeat walk_at "st"
      refine wp_val (eq_str h.ok (by decide +kernel)) ?_
      refine ⟨_, rfl, fun hs => ?_, fun hs => ?_⟩
      · rw [hs] at hbr
        refine ⟨fun _ => ?_, fun hq => nomatch hq⟩
        repeat walk_at "st"
        unfold nmS
        rw [hbr]; simp
      repeat walk_at "st"
      refine wp_val (eq_str h.ok (by decide +kernel)) ?_
      refine ⟨_, rfl, ?_⟩
      rw [hs, Bool.false_or] at hbr
      refine ⟨fun hz => ?_, fun hz => ?_⟩
      · repeat walk_at "st"
        unfold nmS
        rw [hbr, hz]; simp
      repeat walk_at "st"
      refine wp_lcGi (fun c : Nat => D.str ⟨#[c]⟩) (fun c => .str ⟨#[c]⟩) (fun c => !decide (c ∈ letL)) s.cps.toList _ (by rw [slen]; omega) (fun c hc => ?_) ?_
      · repeat walk_at "st"
        refine ⟨rfl, fun _ => ?_⟩
        repeat walk_at "st"
      repeat walk_at "st"
      refine wp_val (odd_eq h _) ?_
      repeat walk_at "st"
      rw [fil_all]
      unfold nmS
      rw [hbr, hz, decide_eq_true h1, decide_eq_true h2]; simp
    · refine ⟨fun _ => ?_, fun hq => absurd (of_decide_eq_false hq) (by omega)⟩
      refine ⟨fun _ => ?_, fun hq => nomatch hq⟩
      repeat walk_at "st"
      unfold nmS
      rw [decide_eq_false h2]; simp
  · refine ⟨fun _ => ?_, fun hq => absurd (of_decide_eq_false hq) (by omega)⟩
    refine ⟨fun _ => ?_, fun hq => nomatch hq⟩
    repeat walk_at "st"
    unfold nmS
    rw [decide_eq_false h1]; simp
theorem lword_p {s : Str} (h : SkL s) : g_law_is_word [.v (.str s)] = .ok (.bl (wdS s), []) := by
  have hl := h.len
  have hsl := split_len s
  have hcn : Txt.count s "." = ((Builtin.Str.occurrences s "." 0 s.length (s.length + 1)).length : Nat) := rfl
  have hc2 : Txt.count s "." = (Txt.split s ".").length - 1 := by rw [hcn]; omega
  refine wp_eq ?_
  refine wp_fn ?_
  show wp (b_law_is_word [.val (.str s), .un] []) _
  unfold b_law_is_word
  repeat walk_at "st"
  refine ⟨rfl, ?_⟩
  repeat walk_at "st"
  by_cases h2 : (Txt.split s ".").length = 2
  · have e : (PyData.int (Txt.count s ".")).eqv (PyData.int 1) = true := by
      simp only [PyData.eqv, beq_iff_eq]; omega
    rw [e]
    repeat walk_at "st"
    have ho : ∃ i, Builtin.Str.occurrences s "." 0 s.length (s.length + 1) = [i] := by
      cases q : Builtin.Str.occurrences s "." 0 s.length (s.length + 1) with
      | nil => rw [q] at hsl; simp at hsl; omega
      | cons i r =>
        cases r with
        | nil => exact ⟨i, rfl⟩
        | cons _ _ => rw [q] at hsl; simp at hsl; omega
    obtain ⟨i, ho⟩ := ho
    obtain ⟨o1, hi⟩ := occ_one ho
    have sp := split_one ho hi
    have hix : dIndexS (.str s) [.str "."] = .ok (.int (i : Nat)) := by unfold dIndexS; simp only; rw [o1]
    have hw : wdS s = (nmS (Builtin.Str.strSub s 0 i) && nmS (Builtin.Str.strSub s (i + 1) s.length)) := by unfold wdS; rw [sp]; simp
    refine ⟨rfl, ?_⟩
    repeat walk_at "st"
    refine wp_val hix ?_
    repeat walk_at "st"
    refine wp_val (sl_p h) ?_
    rw [cut_lo (by omega)]
    repeat walk_at "st"
    refine wp_val (lname_p (h.sub _ _)) ?_
    cases ha : nmS (Builtin.Str.strSub s 0 i) with
    | false =>
      repeat walk_at "st"
      rw [hw, ha]; rfl
    | true =>
      repeat walk_at "st"
      refine wp_val (sl_p h) ?_
      rw [show ((i : Nat) : Int) + 1 = ((i + 1 : Nat) : Int) from rfl, cut_hi (by omega)]
      repeat walk_at "st"
      refine wp_val (lname_p (h.sub _ _)) ?_
      repeat walk_at "st"
      rw [hw, ha]; rfl
  · have e : (PyData.int (Txt.count s ".")).eqv (PyData.int 1) = false := by
      simp only [PyData.eqv, beq_eq_false_iff_ne]; omega
    rw [e]
    repeat walk_at "st"
    unfold wdS
    rw [decide_eq_false h2]; rfl
theorem lvar_p {s : Str} (h : SkL s) : g_law_is_variable [.v (.str s)] = .ok (.bl (vrS s), []) := by
  have ez : sizeLine = 16777216 := rfl
  have hsl := slen s
  have hlen := h.len
  refine wp_eq ?_
  refine wp_fn ?_
  show wp (b_law_is_variable [.val (.str s), .un] []) _
  unfold b_law_is_variable
  repeat walk_at "st"
  refine wp_val (len_p h) ?_
  repeat walk_at "st"
  cases hcs : s.cps.toList with
  | nil =>
    rw [hcs] at hsl
    have hl : s.length = 0 := by simpa using hsl.symm
    refine ⟨fun _ => ⟨fun _ => ?_, fun hq => nomatch hq⟩, fun hq => absurd (of_decide_eq_false hq) (by omega)⟩
    repeat walk_at "st"
    unfold vrS
    rw [decide_eq_false (show ¬ 1 ≤ s.length by omega)]; rfl
  | cons c cs =>
    rw [hcs] at hsl
    have hl : s.length = cs.length + 1 := by simpa using hsl.symm
    refine ⟨fun hq => absurd (of_decide_eq_true hq) (by omega), fun _ => ?_⟩
    repeat walk_at "st"
    refine wp_val (len_p h) ?_
    repeat walk_at "st"
    by_cases h2 : s.length ≤ 4
    · refine ⟨fun hq => absurd (of_decide_eq_true hq) (by omega), fun _ => ?_⟩
      repeat walk_at "st"
      refine wp_val (ix_p h hcs) ?_
      have hh : hdS s = decide (c ∈ capL) := by unfold hdS; rw [hcs]
      repeat walk_at "st"
      cases hc : decide (c ∈ capL) with
      | false =>
        refine ⟨fun _ => ?_, fun hq => ?_⟩
        · repeat walk_at "st"
          unfold vrS
          rw [hh, hc]; simp
        · rw [show decide (c ∈ (("ABCDEFGHIJKLMNOPQRSTUVWXYZ" : String) : Str).cps.toList) = false from hc] at hq
          cases hq
      | true =>
        refine ⟨fun hq => ?_, fun _ => ?_⟩
        · rw [show decide (c ∈ (("ABCDEFGHIJKLMNOPQRSTUVWXYZ" : String) : Str).cps.toList) = true from hc] at hq
          cases hq
        repeat walk_at "st"
        refine wp_val (sl_p h) ?_
        repeat walk_at "st"
        have h1 : SkL (cutS s (some 1) none) := by
          rw [show (1 : Int) = ((1 : Nat) : Int) from rfl, cut_hi (by omega)]
          exact h.sub _ _
        refine wp_lcGi (fun c : Nat => D.str ⟨#[c]⟩) (fun c => .str ⟨#[c]⟩) (fun c => !decide (c ∈ digL)) (cutS s (some 1) none).cps.toList _ (by rw [slen]; have := h1.len; omega) (fun c hc => ?_) ?_
        · repeat walk_at "st"
          refine ⟨rfl, fun _ => ?_⟩
          repeat walk_at "st"
        repeat walk_at "st"
        refine wp_val (odd_eq h1 _) ?_
        repeat walk_at "st"
        rw [fil_all, cutS1]
        unfold vrS
        rw [hh, hc, decide_eq_true h2, decide_eq_true (show 1 ≤ s.length by omega)]; simp
    · refine ⟨fun _ => ?_, fun hq => absurd (of_decide_eq_false hq) (by omega)⟩
      repeat walk_at "st"
      unfold vrS
      rw [decide_eq_false h2]; simp
theorem same_txt {s : Str} (h : SkL s) : Same6 (.str s) := ⟨_, _, _, name_p h.len, lname_p h, word_p h, lword_p h, var_p h, lvar_p h⟩
end P01
set_option Elab.async false
set_option linter.all false
set_option maxRecDepth 100000
set_option maxHeartbeats 4000000
namespace Nv
open PySem L2
/-! ### wp rules for exceptions as values -/
end Nv
set_option Elab.async false
set_option linter.all false
set_option maxRecDepth 100000
set_option maxHeartbeats 400000
namespace P01
open PySem L2 Nv
local macro_rules | `(tactic| walk_at "stE") => `(tactic| with_reducible first | refine wp_mu ?_ | refine wp_sif ?_ | refine wp_callR ?_ | refine wp_setLen ?_ | refine wp_tab ?_ | refine wp_orV ?_ | refine wp_isiC ?_ | refine wp_isi2 ?_ | refine wp_callT ?_ | refine wp_cmK ?_ | refine wp_newVK ?_ | refine wp_tup ?_ | refine wp_isi ?_ | refine wp_app ?_ | refine wp_ext ?_ | refine wp_sl ?_ | refine wp_get2 ?_ | refine wp_sand ?_ | refine wp_chain ?_ | refine wp_sor ?_ | refine wp_neg ?_ | refine wp_pop ?_ | refine wp_pop0 ?_ | refine wp_callO ?_ | refine wp_callV ?_ | refine wp_snot ?_ | refine wp_att ?_ | refine wp_prop ?_ | refine wp_methG ?_ | refine wp_cm ?_ | refine wp_new ?_ | refine wp_newV ?_ | refine wp_gsD ?_ | refine wp_gsO ?_)
local macro_rules | `(tactic| walk_at "stS") => `(tactic| with_reducible first | refine wp_ret ?_ | refine wp_drop ?_ | refine wp_ifs ?_ | refine wp_put ?_ | refine wp_setix ?_ | refine wp_for ?_ | refine wp_asg ?_ | refine wp_lock ?_ | refine wp_par ?_ | refine wp_store ?_)
local macro_rules | `(tactic| walk_at "stF") => `(tactic| with_reducible first | refine wp_setSorted ?_ | refine wp_lst ?_ | refine wp_mt ?_ | refine wp_lc ?_ | refine wp_rev ?_ | refine wp_s2 ?_ | refine wp_dc ?_ | refine wp_listZip ?_ | refine wp_flock ?_ | refine wp_fLc2 ?_)
local macro_rules | `(tactic| walk_at "stI") => `(tactic| with_reducible first | refine wp_enuA ?_ | refine wp_iof ?_ | refine wp_range1 ?_ | refine wp_enu ?_ | refine wp_zip ?_ | refine wp_range2 ?_)
local macro_rules | `(tactic| walk_at "stB") => `(tactic| with_reducible first | refine wp_btru ?_ | refine wp_bnot ?_ | refine wp_band ?_ | refine wp_bor ?_)
local macro_rules | `(tactic| walk_at "stA") => `(tactic| with_reducible first | refine wp_perm ?_ | refine wp_star ?_)
local macro_rules | `(tactic| walk_at "stR") => `(tactic| first
  | with_reducible refine wp_oseq ?_
  | with_reducible refine wp_oret ?_
  | with_reducible refine wp_mod (by omega) ?_
  | with_reducible refine wp_fdiv (by omega) ?_
  | with_reducible refine wp_mul (by omega) ?_
  | (with_reducible refine wp_val isi_T ?_; try dsimp only)
  | (with_reducible refine wp_val sl1 ?_; try dsimp only)
  | (with_reducible refine wp_val ix0 ?_; try dsimp only)
  | (with_reducible refine wp_val ix0L ?_; try dsimp only)
  | (with_reducible refine wp_val isi_F ?_; try dsimp only)
  | (refine wp_val rfl ?_; try dsimp only [List.set_cons_zero, List.set_cons_succ, wipeR, List.length_nil, List.nil_append])
  | (refine ⟨_, rfl, ?_⟩; try dsimp only)
  | (refine ⟨Nat.le_of_ble_eq_true rfl, ?_⟩; try dsimp only [List.set_cons_zero, List.set_cons_succ, wipeR, List.length_nil, List.nil_append])
  | refine ⟨fun _ => ?_, fun h => absurd h (by decide)⟩
  | refine ⟨fun h => absurd h (by decide), fun _ => ?_⟩
  | refine ⟨(rfl : isDct _ = true), ?_⟩
  | (refine ⟨nd0, ?_⟩; try dsimp only [List.set_cons_zero, List.set_cons_succ, wipeR, List.length_nil, List.nil_append])
  | (refine ⟨nd1 _, ?_⟩; try dsimp only [List.set_cons_zero, List.set_cons_succ, wipeR, List.length_nil, List.nil_append])
  | (refine ⟨nd01, ?_⟩; try dsimp only [List.set_cons_zero, List.set_cons_succ, wipeR, List.length_nil, List.nil_append])
  | (refine ⟨by decide, ?_⟩; try dsimp only [List.set_cons_zero, List.set_cons_succ, wipeR, List.length_nil, List.nil_append]))
local macro_rules | `(tactic| walk_at "st2") => `(tactic| first | (with_reducible refine ty_E ?_; walk_at "stE") | (with_reducible refine ty_S ?_; walk_at "stS") | (with_reducible refine ty_F ?_; walk_at "stF") | (with_reducible refine ty_I ?_; walk_at "stI") | (with_reducible refine ty_B ?_; walk_at "stB") | (with_reducible refine ty_A ?_; walk_at "stA") | walk_at "stR")
local macro_rules | `(tactic| walk_at "st") => `(tactic| first
  | ((with_reducible first | refine lf_var ?_ | refine lf_view ?_ | refine lf_sc ?_ | refine lf_anil ?_ | refine lf_views ?_ | refine lf_pre ?_ | refine lf_fin ?_ | refine lf_putb ?_ | refine lf_tod ?_ | refine lf_nx ?_ | refine lf_gn ?_ | refine lf_bys ?_); refine wp_val rfl ?_; try dsimp only [List.set_cons_zero, List.set_cons_succ, wipeR, List.length_nil, List.nil_append])
  | (with_reducible first | refine wp_acons ?_ | refine wp_op ?_ | refine wp_fz ?_ | refine wp_set ?_ | refine wp_seq ?_ | refine wp_call ?_ | refine wp_n ?_ | refine wp_bof ?_)
  | walk_at "st2")
theorem letters_T {A : Int} {d : D} (h : PenOk A d) {sg : Str} (hs : PyData.strOk sg = true) (hz : 1 ≤ sg.length ∧ sg.length ≤ 100) {lo hi : Int} (h0 : 0 ≤ lo) (hlh : lo ≤ hi) (h9 : hi ≤ 9) (hA : A < 3000000) :
    wp (g_law_letters [.b d, .v (.str sg), .v (.int lo), .v (.int hi)]) fun x => ∃ (s : Str) (d' : D), x = (.str s, [d']) ∧ PyData.strOk s = true ∧ s.length ≤ hi.toNat ∧ PenOk (A + 11) d' := by
  have ez : sizeLine = 16777216 := rfl
  have hlen : dLen [.str sg] = .ok (.int sg.length) := if_pos (by omega)
  refine wp_fn ?_
  show wp (b_law_letters [.ref 0, .val (.str sg), .val (.int lo), .val (.int hi), .un, .un] [⟨.bor, d⟩]) _
  unfold b_law_letters
  rw [q_draw]
  repeat walk_at "st"
  refine wp_mono (draw_ok h (by omega) (by omega) (by omega)) ?_
  rintro _ ⟨k1, d1, rfl, hk0, hk1, h1⟩
  repeat walk_at "st"
  refine wp_mono (draw_ok h1 (by omega) (by omega) (by omega)) ?_
  rintro _ ⟨k2, d2, rfl, hq0, hq1, h2⟩
  repeat walk_at "st"
  have pick : ∃ n : Int, dIx (.lst [.int lo, .int hi, .int (lo + k1)]) (.int k2) = .ok (.int n) ∧ 0 ≤ n ∧ n ≤ hi := by
    rcases (show k2 = 0 ∨ k2 = 1 ∨ k2 = 2 by omega) with rfl | rfl | rfl
    · exact ⟨lo, rfl, by omega, by omega⟩
    · exact ⟨hi, rfl, by omega, by omega⟩
    · exact ⟨lo + k1, rfl, by omega, by omega⟩
  obtain ⟨n, hn, hn0, hn9⟩ := pick
  refine wp_val hn ?_
  repeat walk_at "st"
  refine ⟨by omega, ?_⟩
  refine wp_lcY (fun i acc m => ∃ d3, m = [⟨.bor, d3⟩] ∧ StrL 1 acc ∧ PenOk (A + 2 + (i : Int)) d3) _ _ ?_ ?_ ?_
  · exact ⟨d2, rfl, StrL.nil, h2.mono (by omega)⟩
  · rintro i d0 acc m e hl ⟨d3, rfl, ha, h3⟩
    obtain ⟨rfl, hi'⟩ := rangeD_get e
    repeat walk_at "st"
    refine wp_val hlen ?_
    repeat walk_at "st"
    refine wp_mono (draw_ok h3 (by omega) (by omega) (by omega)) ?_
    rintro _ ⟨y, d4, rfl, hy0, hy, h4⟩
    repeat walk_at "st"
    refine wp_pick hs (by omega) hy0 (by omega) fun x hx hx1 => ?_
    repeat walk_at "st"
    exact ⟨by show i < 16777216; omega, d4, rfl, ha.snoc hx (by omega), h4.mono (by omega)⟩
  · rintro acc m hl ⟨d3, rfl, ha, h3⟩
    rw [rangeD_len] at hl h3
    repeat walk_at "st"
    refine join_ok ha (by omega) fun s hs1 hs2 => ?_
    repeat walk_at "st"
    exact ⟨s, d3, rfl, hs1, by omega, h3.mono (by omega)⟩
theorem upper_T : Txt.upper "abcdefghijklmnopqrstuvwxyz" = "ABCDEFGHIJKLMNOPQRSTUVWXYZ" := by decide +kernel
theorem abc_strOk : PyData.strOk "abcdefghijklmnopqrstuvwxyz" = true := by decide +kernel
theorem cap_strOk : PyData.strOk "ABCDEFGHIJKLMNOPQRSTUVWXYZ" = true := by decide +kernel
theorem dig_strOk : PyData.strOk "0123456789" = true := by decide +kernel
theorem text_T {A : Int} {d : D} (h : PenOk A d) (hA : A < 2900000) :
    wp (g_law_text [.b d]) fun x => ∃ (s : Str) (d' : D), x = (.str s, [d']) ∧ PyData.strOk s = true ∧ s.length ≤ 18 ∧ PenOk (A + 60) d' := by
  have ez : sizeLine = 16777216 := rfl
  have la : (("abcdefghijklmnopqrstuvwxyz" : String) : Str).length = 26 := rfl
  have lc : (("ABCDEFGHIJKLMNOPQRSTUVWXYZ" : String) : Str).length = 26 := rfl
  have ld : (("0123456789" : String) : Str).length = 10 := rfl
  refine wp_fn ?_
  show wp (b_law_text [.ref 0, .un, .un, .un, .un] [⟨.bor, d⟩]) _
  unfold b_law_text
  rw [q_draw]
  repeat walk_at "st"
  refine wp_mono (draw_ok h (by omega) (by omega) (by omega)) ?_
  rintro _ ⟨way, d1, rfl, hw0, hw, h1⟩
  repeat walk_at "st"
  refine wp_mono (letters_T h1 abc_strOk (by omega) (by omega) (by omega) (by omega) (by omega)) ?_
  rintro _ ⟨s1, d2, rfl, o1, l1, h2⟩
  repeat walk_at "st"
  refine wp_mono (letters_T h2 abc_strOk (by omega) (by omega) (by omega) (by omega) (by omega)) ?_
  rintro _ ⟨s2, d3, rfl, o2, l2, h3⟩
  repeat walk_at "st"
  have one : ∃ s : Str, dIx (.lst [.str s1, .str s2]) (.int (if decide (3 < way) = true then 1 else 0)) = .ok (.str s) ∧ PyData.strOk s = true ∧ s.length ≤ 9 := by
    by_cases hq : 3 < way
    · rw [decide_eq_true hq]; exact ⟨s2, rfl, o2, by omega⟩
    · rw [decide_eq_false hq]; exact ⟨s1, rfl, o1, by omega⟩
  obtain ⟨one, e1, oo, lo⟩ := one
  refine wp_val e1 ?_
  repeat walk_at "st"
  refine wp_mono (letters_T h3 abc_strOk (by omega) (by omega) (by omega) (by omega) (by omega)) ?_
  rintro _ ⟨s3, d4, rfl, o3, l3, h4⟩
  repeat walk_at "st"
  refine wp_mono (draw_ok h4 (by omega) (by omega) (by omega)) ?_
  rintro _ ⟨k, d5, rfl, hk0, hk, h5⟩
  repeat walk_at "st"
  have far : ∃ s : Str, dIx (.lst [.str s3, .str "self", .str "head", .str "selfs", .str "hea"]) (.int k) = .ok (.str s) ∧ PyData.strOk s = true ∧ s.length ≤ 8 := by
    rcases (show k = 0 ∨ k = 1 ∨ k = 2 ∨ k = 3 ∨ k = 4 by omega) with rfl | rfl | rfl | rfl | rfl
    · exact ⟨s3, rfl, o3, by omega⟩
    · exact ⟨"self", rfl, by decide +kernel, by decide +kernel⟩
    · exact ⟨"head", rfl, by decide +kernel, by decide +kernel⟩
    · exact ⟨"selfs", rfl, by decide +kernel, by decide +kernel⟩
    · exact ⟨"hea", rfl, by decide +kernel, by decide +kernel⟩
  obtain ⟨far, e2, of, lf⟩ := far
  refine wp_val e2 ?_
  clear e1 e2 h h1 h2 h3 h4
  have dotl : (("." : String) : Str).length = 1 := rfl
  have doto : PyData.strOk "." = true := by decide +kernel
  rcases (show way = 0 ∨ way = 1 ∨ way = 2 ∨ way = 3 ∨ way = 4 ∨ way = 5 by omega) with rfl | rfl | rfl | rfl | rfl | rfl
  · repeat walk_at "st"
    exact ⟨one, d5, rfl, oo, by omega, h5.mono (by omega)⟩
  · repeat walk_at "st"
    refine wp_addS (by omega) ?_
    repeat walk_at "st"
    refine wp_addS (by rw [len_app]; omega) ?_
    repeat walk_at "st"
    exact ⟨_, d5, rfl, sok_app (sok_app oo doto) of, by rw [len_app, len_app]; omega, h5.mono (by omega)⟩
  · repeat walk_at "st"
    rw [upper_T]
    refine wp_mono (letters_T h5 cap_strOk (by omega) (by omega) (by omega) (by omega) (by omega)) ?_
    rintro _ ⟨u1, d6, rfl, p1, m1, g1⟩
    repeat walk_at "st"
    refine wp_mono (letters_T g1 dig_strOk (by omega) (by omega) (by omega) (by omega) (by omega)) ?_
    rintro _ ⟨u2, d7, rfl, p2, m2, g2⟩
    repeat walk_at "st"
    refine wp_addS (by omega) ?_
    repeat walk_at "st"
    exact ⟨_, d7, rfl, sok_app p1 p2, by rw [len_app]; omega, g2.mono (by omega)⟩
  · repeat walk_at "st"
    exact ⟨far, d5, rfl, of, by omega, h5.mono (by omega)⟩
  · repeat walk_at "st"
    refine wp_addS (by omega) ?_
    repeat walk_at "st"
    refine wp_addS (by rw [len_app]; omega) ?_
    repeat walk_at "st"
    exact ⟨_, d5, rfl, sok_app (sok_app oo doto) of, by rw [len_app, len_app]; omega, h5.mono (by omega)⟩
  · repeat walk_at "st"
    rw [upper_T]
    refine wp_mono (letters_T h5 cap_strOk (by omega) (by omega) (by omega) (by omega) (by omega)) ?_
    rintro _ ⟨u1, d6, rfl, p1, m1, g1⟩
    repeat walk_at "st"
    refine wp_mono (letters_T g1 dig_strOk (by omega) (by omega) (by omega) (by omega) (by omega)) ?_
    rintro _ ⟨u2, d7, rfl, p2, m2, g2⟩
    repeat walk_at "st"
    refine wp_addS (by omega) ?_
    repeat walk_at "st"
    exact ⟨_, d7, rfl, sok_app p1 p2, by rw [len_app]; omega, g2.mono (by omega)⟩
theorem cut_ok {s : Str} (h : PyData.strOk s = true) (lo hi : Option Int) : PyData.strOk (cutS s lo hi) = true ∧ (cutS s lo hi).length ≤ s.length := by
  have hin : ∀ c ∈ (cutS s lo hi).cps.toList, c ∈ s.cps.toList := by
    intro c hc
    unfold cutS at hc
    simp only [List.toList_toArray] at hc
    exact List.mem_of_mem_drop (List.mem_of_mem_take hc)
  refine ⟨sok_iff.mpr fun c hc => sok_iff.mp h c (hin c hc), ?_⟩
  unfold cutS
  simp only [Str.length, List.size_toArray, List.length_take, List.length_drop]
  have : s.cps.toList.length = s.cps.size := by simp
  omega
theorem bent_T {A : Int} {d : D} (h : PenOk A d) (hA : A < 2900000) {s : Str} (hs : PyData.strOk s = true) (hl : s.length ≤ 18) :
    wp (g_law_bent [.b d, .v (.str s)]) fun x => ∃ (t : Str) (d' : D), x = (.str t, [d']) ∧ PyData.strOk t = true ∧ t.length ≤ 40 ∧ PenOk (A + 3) d' := by
  have ez : sizeLine = 16777216 := rfl
  have lsg : (("abcxyzABCXYZ0123456789..  _-'\"()[]{},;:!?#&*+/<=>@|~^`\n" : String) : Str).length = 55 := by decide +kernel
  have osg : PyData.strOk "abcxyzABCXYZ0123456789..  _-'\"()[]{},;:!?#&*+/<=>@|~^`\n" = true := by decide +kernel
  have hd1 : dLen [.str "abcxyzABCXYZ0123456789..  _-'\"()[]{},;:!?#&*+/<=>@|~^`\n"] = .ok (.int 55) := by
    have z := len_p (s := ("abcxyzABCXYZ0123456789..  _-'\"()[]{},;:!?#&*+/<=>@|~^`\n" : String)) ⟨osg, by rw [lsg]; omega⟩
    rw [lsg] at z; exact z
  have hd2 : dLen [.str s] = .ok (.int s.length) := if_pos (by omega)
  refine wp_fn ?_
  show wp (b_law_bent [.ref 0, .val (.str s), .un, .un, .un, .un] [⟨.bor, d⟩]) _
  unfold b_law_bent
  rw [q_draw]
  generalize (("abcxyzABCXYZ0123456789..  _-'\"()[]{},;:!?#&*+/<=>@|~^`\n" : String) : Str) = sg at lsg osg hd1
  repeat walk_at "st"
  refine wp_val hd1 ?_
  repeat walk_at "st"
  refine wp_mono (draw_ok h (by omega) (by omega) (by omega)) ?_
  rintro _ ⟨k1, d1, rfl, hk0, hk1, h1⟩
  repeat walk_at "st"
  refine wp_pick osg (by omega) hk0 (by omega) fun x hx hx1 => ?_
  repeat walk_at "st"
  refine wp_val hd2 ?_
  repeat walk_at "st"
  refine wp_mono (draw_ok h1 (by omega) (by omega) (by omega)) ?_
  rintro _ ⟨k2, d2, rfl, hq0, hq1, h2⟩
  repeat walk_at "st"
  refine wp_mono (draw_ok h2 (by omega) (by omega) (by omega)) ?_
  rintro _ ⟨k3, d3, rfl, hr0, hr1, h3⟩
  repeat walk_at "st"
  have S : SkL s := ⟨hs, by omega⟩
  have c1 := cut_ok hs none (some k2)
  have c2 := cut_ok hs (some k2) none
  have c3 := cut_ok hs (some (k2 + 1)) none
  refine wp_val (sl_p S) ?_
  repeat walk_at "st"
  refine wp_addS (by omega) ?_
  repeat walk_at "st"
  refine wp_val (sl_p S) ?_
  repeat walk_at "st"
  refine wp_addS (by rw [len_app]; omega) ?_
  repeat walk_at "st"
  refine wp_val (sl_p S) ?_
  repeat walk_at "st"
  refine wp_val (sl_p S) ?_
  repeat walk_at "st"
  refine wp_addS (by omega) ?_
  repeat walk_at "st"
  refine wp_val (sl_p S) ?_
  repeat walk_at "st"
  refine wp_addS (by omega) ?_
  repeat walk_at "st"
  refine wp_val (sl_p S) ?_
  repeat walk_at "st"
  refine wp_addS (by rw [len_app]; omega) ?_
  repeat walk_at "st"
  generalize cutS s none (some k2) = u1 at c1
  generalize cutS s (some k2) none = u2 at c2
  generalize cutS s (some (k2 + 1)) none = u3 at c3
  have fin : ∃ t : Str, dIx (.lst [.str (u1 ++ x ++ u2), .str (u1 ++ u3), .str (u1 ++ x ++ u3), .str s]) (.int k3) = .ok (.str t) ∧ PyData.strOk t = true ∧ t.length ≤ 40 := by
    rcases (show k3 = 0 ∨ k3 = 1 ∨ k3 = 2 ∨ k3 = 3 by omega) with rfl | rfl | rfl | rfl
    · exact ⟨_, rfl, sok_app (sok_app c1.1 hx) c2.1, by rw [len_app, len_app]; omega⟩
    · exact ⟨_, rfl, sok_app c1.1 c3.1, by rw [len_app]; omega⟩
    · exact ⟨_, rfl, sok_app (sok_app c1.1 hx) c3.1, by rw [len_app, len_app]; omega⟩
    · exact ⟨s, rfl, hs, by omega⟩
  obtain ⟨t, e, ot, lt⟩ := fin
  refine wp_val e ?_
  repeat walk_at "st"
  exact ⟨t, d3, rfl, ot, lt, h3.mono (by omega)⟩
end P01
set_option Elab.async false
set_option linter.all false
set_option maxRecDepth 100000
set_option maxHeartbeats 400000
namespace P01
open PySem L2 Nv
local macro_rules | `(tactic| walk_at "stE") => `(tactic| with_reducible first | refine wp_mu ?_ | refine wp_sif ?_ | refine wp_callR ?_ | refine wp_setLen ?_ | refine wp_tab ?_ | refine wp_orV ?_ | refine wp_isiC ?_ | refine wp_isi2 ?_ | refine wp_callT ?_ | refine wp_cmK ?_ | refine wp_newVK ?_ | refine wp_tup ?_ | refine wp_isi ?_ | refine wp_app ?_ | refine wp_ext ?_ | refine wp_sl ?_ | refine wp_get2 ?_ | refine wp_sand ?_ | refine wp_chain ?_ | refine wp_sor ?_ | refine wp_neg ?_ | refine wp_pop ?_ | refine wp_pop0 ?_ | refine wp_callO ?_ | refine wp_callV ?_ | refine wp_snot ?_ | refine wp_att ?_ | refine wp_prop ?_ | refine wp_methG ?_ | refine wp_cm ?_ | refine wp_new ?_ | refine wp_newV ?_ | refine wp_gsD ?_ | refine wp_gsO ?_)
local macro_rules | `(tactic| walk_at "stS") => `(tactic| with_reducible first | refine wp_ret ?_ | refine wp_drop ?_ | refine wp_ifs ?_ | refine wp_put ?_ | refine wp_setix ?_ | refine wp_for ?_ | refine wp_asg ?_ | refine wp_lock ?_ | refine wp_par ?_ | refine wp_store ?_)
local macro_rules | `(tactic| walk_at "stF") => `(tactic| with_reducible first | refine wp_setSorted ?_ | refine wp_lst ?_ | refine wp_mt ?_ | refine wp_lc ?_ | refine wp_rev ?_ | refine wp_s2 ?_ | refine wp_dc ?_ | refine wp_listZip ?_ | refine wp_flock ?_ | refine wp_fLc2 ?_)
local macro_rules | `(tactic| walk_at "stI") => `(tactic| with_reducible first | refine wp_enuA ?_ | refine wp_iof ?_ | refine wp_range1 ?_ | refine wp_enu ?_ | refine wp_zip ?_ | refine wp_range2 ?_)
local macro_rules | `(tactic| walk_at "stB") => `(tactic| with_reducible first | refine wp_btru ?_ | refine wp_bnot ?_ | refine wp_band ?_ | refine wp_bor ?_)
local macro_rules | `(tactic| walk_at "stA") => `(tactic| with_reducible first | refine wp_perm ?_ | refine wp_star ?_)
local macro_rules | `(tactic| walk_at "stR") => `(tactic| first
  | with_reducible refine wp_oseq ?_
  | with_reducible refine wp_oret ?_
  | with_reducible refine wp_mod (by omega) ?_
  | with_reducible refine wp_fdiv (by omega) ?_
  | with_reducible refine wp_mul (by omega) ?_
  | (with_reducible refine wp_val isi_T ?_; try dsimp only)
  | (with_reducible refine wp_val sl1 ?_; try dsimp only)
  | (with_reducible refine wp_val ix0 ?_; try dsimp only)
  | (with_reducible refine wp_val ix0L ?_; try dsimp only)
  | (with_reducible refine wp_val isi_F ?_; try dsimp only)
  | (refine wp_val rfl ?_; try dsimp only [List.set_cons_zero, List.set_cons_succ, wipeR, List.length_nil, List.nil_append])
  | (refine ⟨_, rfl, ?_⟩; try dsimp only)
  | (refine ⟨Nat.le_of_ble_eq_true rfl, ?_⟩; try dsimp only [List.set_cons_zero, List.set_cons_succ, wipeR, List.length_nil, List.nil_append])
  | refine ⟨fun _ => ?_, fun h => absurd h (by decide)⟩
  | refine ⟨fun h => absurd h (by decide), fun _ => ?_⟩
  | refine ⟨(rfl : isDct _ = true), ?_⟩
  | (refine ⟨nd0, ?_⟩; try dsimp only [List.set_cons_zero, List.set_cons_succ, wipeR, List.length_nil, List.nil_append])
  | (refine ⟨nd1 _, ?_⟩; try dsimp only [List.set_cons_zero, List.set_cons_succ, wipeR, List.length_nil, List.nil_append])
  | (refine ⟨nd01, ?_⟩; try dsimp only [List.set_cons_zero, List.set_cons_succ, wipeR, List.length_nil, List.nil_append])
  | (refine ⟨by decide, ?_⟩; try dsimp only [List.set_cons_zero, List.set_cons_succ, wipeR, List.length_nil, List.nil_append]))
local macro_rules | `(tactic| walk_at "st2") => `(tactic| first | (with_reducible refine ty_E ?_; walk_at "stE") | (with_reducible refine ty_S ?_; walk_at "stS") | (with_reducible refine ty_F ?_; walk_at "stF") | (with_reducible refine ty_I ?_; walk_at "stI") | (with_reducible refine ty_B ?_; walk_at "stB") | (with_reducible refine ty_A ?_; walk_at "stA") | walk_at "stR")
local macro_rules | `(tactic| walk_at "st") => `(tactic| first
  | ((with_reducible first | refine lf_var ?_ | refine lf_view ?_ | refine lf_sc ?_ | refine lf_anil ?_ | refine lf_views ?_ | refine lf_pre ?_ | refine lf_fin ?_ | refine lf_putb ?_ | refine lf_tod ?_ | refine lf_nx ?_ | refine lf_gn ?_ | refine lf_bys ?_); refine wp_val rfl ?_; try dsimp only [List.set_cons_zero, List.set_cons_succ, wipeR, List.length_nil, List.nil_append])
  | (with_reducible first | refine wp_acons ?_ | refine wp_op ?_ | refine wp_fz ?_ | refine wp_set ?_ | refine wp_seq ?_ | refine wp_call ?_ | refine wp_n ?_ | refine wp_bof ?_)
  | walk_at "st2")
theorem rep3 (a b c : Bool) : ∃ s, dReprD [.lst [.bl a, .bl b, .bl c]] = .ok (.str s) ∧ dNe (.str s) (.str s) = .ok (.bl false) := by
  have nb : ∀ x : Bool, Nice 58 (.bl x) := fun x => by first | exact Nice.bl | exact (Nice.bl).mono (by omega) | exact Nice.bl.mono (Nat.zero_le _)
  have hn : NiceL 58 [.bl a, .bl b, .bl c] := NiceL.cons (nb a) (NiceL.cons (nb b) (NiceL.cons (nb c) NiceL.nil))
  obtain ⟨s, h1, h2, _⟩ := repr_neD ((Nice.lst hn).mono (by omega)).d (by
    cases a <;> cases b <;> cases c <;> decide +kernel)
  exact ⟨s, h1, h2⟩
def en_b : SS := sSeq (sSet 7 (sFz (sN dReprD (aCons (sFz (fLst (aCons (sCall [false] g_law_is_name (aCons (sVar 5) aNil)) (aCons (sCall [false] g_law_is_word (aCons (sVar 5) aNil)) (aCons (sCall [false] g_law_is_variable (aCons (sVar 5) aNil)) aNil))))) aNil))))
    (sSeq (sIfS (bOf (sOp dNe (sFz (sN dReprD (aCons (sFz (fLst (aCons (sCall [false] g_is_name (aCons (sVar 5) aNil)) (aCons (sCall [false] g_is_word (aCons (sVar 5) aNil)) (aCons (sCall [false] g_is_variable (aCons (sVar 5) aNil)) aNil))))) aNil))) (sVar 7))) (sRet (sC (.bl false))) sNx)
    (sIfS (bOf (sOp dNe (sFz (sN dReprD (aCons (sFz (fLst (aCons (sCall [false] g_is_name (aPerm 1 [0] (aCons (sVar 5) aNil))) (aCons (sCall [false] g_is_word (aPerm 1 [0] (aCons (sVar 5) aNil))) (aCons (sCall [false] g_is_variable (aPerm 1 [0] (aCons (sVar 5) aNil))) aNil))))) aNil))) (sVar 7))) (sRet (sC (.bl false))) sNx))
theorem en_T {d : D} (h : Same6 d) {s0 s1 s2 s3 s4 s6 s7 s8 s9 : Sl} {m : List Cell} {Q : Fl × List Sl × List Cell → Prop}
    (q : ∀ x7, Q (.nx, [s0, s1, s2, s3, s4, .val d, s6, x7, s8, s9], m)) : wp (en_b [s0, s1, s2, s3, s4, .val d, s6, s7, s8, s9] m) Q := by
  obtain ⟨a, b, c, e1, e2, e3, e4, e5, e6⟩ := h
  obtain ⟨s, r1, r2⟩ := rep3 a b c
  unfold en_b
  generalize g_law_is_name = G1 at *
  generalize g_law_is_word = G2 at *
  generalize g_law_is_variable = G3 at *
  generalize g_is_name = G4 at *
  generalize g_is_word = G5 at *
  generalize g_is_variable = G6 at *
  repeat walk_at "st"
  refine wp_val e2 ?_
  repeat walk_at "st"
  refine wp_val e4 ?_
  repeat walk_at "st"
  refine wp_val e6 ?_
  repeat walk_at "st"
  refine wp_val r1 ?_
  repeat walk_at "st"
  refine wp_val e1 ?_
  repeat walk_at "st"
  refine wp_val e3 ?_
  repeat walk_at "st"
  refine wp_val e5 ?_
  repeat walk_at "st"
  refine wp_val r1 ?_
  repeat walk_at "st"
  refine wp_val r2 ?_
  repeat walk_at "st"
  refine ⟨rfl, ?_⟩
  repeat walk_at "st"
  refine wp_val e1 ?_
  repeat walk_at "st"
  refine ⟨rfl, ?_⟩
  repeat walk_at "st"
  refine wp_val e3 ?_
  repeat walk_at "st"
  refine ⟨rfl, ?_⟩
  repeat walk_at "st"
  refine wp_val e5 ?_
  repeat walk_at "st"
  refine wp_val r1 ?_
  repeat walk_at "st"
  refine wp_val r2 ?_
  repeat walk_at "st"
  exact q _
def la_b : SS := sSeq (sSet 6 (sCall [true] g_law_text (aCons (sVar 1) aNil)))
    (sSet 3 (sOp dAdd (sVar 3) (sFz (fLst (aCons (sVar 6) (aCons (sCall [true, false] g_law_bent (aCons (sVar 1) (aCons (sVar 6) aNil))) aNil))))))
theorem la_T {A : Int} {d : D} (h : PenOk A d) (hA : A < 2000000) {es : List D} (hl : es.length ≤ 1000) (hs : ∀ e ∈ es, Same6 e) {s0 s2 s4 s5 s6 s7 s8 s9 : Sl} {Q : Fl × List Sl × List Cell → Prop}
    (q : ∀ (d' : D) (es' : List D) x6, PenOk (A + 63) d' → es'.length = es.length + 2 → (∀ e ∈ es', Same6 e) → Q (.nx, [s0, .ref 0, s2, .val (.lst es'), s4, s5, x6, s7, s8, s9], [⟨.own, d'⟩])) :
    wp (la_b [s0, .ref 0, s2, .val (.lst es), s4, s5, s6, s7, s8, s9] [⟨.own, d⟩]) Q := by
  have ez : sizeLine = 16777216 := rfl
  unfold la_b
  have T1 := @text_T
  have T2 := @bent_T
  generalize g_law_text = G1 at T1 ⊢
  generalize g_law_bent = G2 at T2 ⊢
  repeat walk_at "st"
  refine wp_mono (T1 h (by omega)) ?_
  rintro _ ⟨s, d1, rfl, o1, l1, h1⟩
  repeat walk_at "st"
  refine wp_mono (T2 h1 (by omega) o1 l1) ?_
  rintro _ ⟨t, d2, rfl, o2, l2, h2⟩
  repeat walk_at "st"
  refine wp_addL (by show es.length + 2 ≤ sizeLine; omega) ?_
  repeat walk_at "st"
  refine q _ _ _ (h2.mono (by omega)) (by simp) fun e he => ?_
  rcases List.mem_append.mp he with he | he
  · exact hs e he
  · simp only [List.mem_cons, List.not_mem_nil, or_false] at he
    rcases he with rfl | rfl
    · exact same_txt ⟨o1, by omega⟩
    · exact same_txt ⟨o2, by omega⟩
end P01
set_option Elab.async false
set_option linter.all false
set_option maxRecDepth 100000
set_option maxHeartbeats 400000
namespace P01
open PySem L2 Nv
local macro_rules | `(tactic| walk_at "stE") => `(tactic| with_reducible first | refine wp_mu ?_ | refine wp_sif ?_ | refine wp_callR ?_ | refine wp_setLen ?_ | refine wp_tab ?_ | refine wp_orV ?_ | refine wp_isiC ?_ | refine wp_isi2 ?_ | refine wp_callT ?_ | refine wp_cmK ?_ | refine wp_newVK ?_ | refine wp_tup ?_ | refine wp_isi ?_ | refine wp_app ?_ | refine wp_ext ?_ | refine wp_sl ?_ | refine wp_get2 ?_ | refine wp_sand ?_ | refine wp_chain ?_ | refine wp_sor ?_ | refine wp_neg ?_ | refine wp_pop ?_ | refine wp_pop0 ?_ | refine wp_callO ?_ | refine wp_callV ?_ | refine wp_snot ?_ | refine wp_att ?_ | refine wp_prop ?_ | refine wp_methG ?_ | refine wp_cm ?_ | refine wp_new ?_ | refine wp_newV ?_ | refine wp_gsD ?_ | refine wp_gsO ?_)
local macro_rules | `(tactic| walk_at "stS") => `(tactic| with_reducible first | refine wp_ret ?_ | refine wp_drop ?_ | refine wp_ifs ?_ | refine wp_put ?_ | refine wp_setix ?_ | refine wp_for ?_ | refine wp_asg ?_ | refine wp_lock ?_ | refine wp_par ?_ | refine wp_store ?_)
local macro_rules | `(tactic| walk_at "stF") => `(tactic| with_reducible first | refine wp_setSorted ?_ | refine wp_lst ?_ | refine wp_mt ?_ | refine wp_lc ?_ | refine wp_rev ?_ | refine wp_s2 ?_ | refine wp_dc ?_ | refine wp_listZip ?_ | refine wp_flock ?_ | refine wp_fLc2 ?_)
local macro_rules | `(tactic| walk_at "stI") => `(tactic| with_reducible first | refine wp_enuA ?_ | refine wp_iof ?_ | refine wp_range1 ?_ | refine wp_enu ?_ | refine wp_zip ?_ | refine wp_range2 ?_)
local macro_rules | `(tactic| walk_at "stB") => `(tactic| with_reducible first | refine wp_btru ?_ | refine wp_bnot ?_ | refine wp_band ?_ | refine wp_bor ?_)
local macro_rules | `(tactic| walk_at "stA") => `(tactic| with_reducible first | refine wp_perm ?_ | refine wp_star ?_)
local macro_rules | `(tactic| walk_at "stR") => `(tactic| first
  | with_reducible refine wp_oseq ?_
  | with_reducible refine wp_oret ?_
  | with_reducible refine wp_mod (by omega) ?_
  | with_reducible refine wp_fdiv (by omega) ?_
  | with_reducible refine wp_mul (by omega) ?_
  | (with_reducible refine wp_val isi_T ?_; try dsimp only)
  | (with_reducible refine wp_val sl1 ?_; try dsimp only)
  | (with_reducible refine wp_val ix0 ?_; try dsimp only)
  | (with_reducible refine wp_val ix0L ?_; try dsimp only)
  | (with_reducible refine wp_val isi_F ?_; try dsimp only)
  | (refine wp_val rfl ?_; try dsimp only [List.set_cons_zero, List.set_cons_succ, wipeR, List.length_nil, List.nil_append])
  | (refine ⟨_, rfl, ?_⟩; try dsimp only)
  | (refine ⟨Nat.le_of_ble_eq_true rfl, ?_⟩; try dsimp only [List.set_cons_zero, List.set_cons_succ, wipeR, List.length_nil, List.nil_append])
  | refine ⟨fun _ => ?_, fun h => absurd h (by decide)⟩
  | refine ⟨fun h => absurd h (by decide), fun _ => ?_⟩
  | refine ⟨(rfl : isDct _ = true), ?_⟩
  | (refine ⟨nd0, ?_⟩; try dsimp only [List.set_cons_zero, List.set_cons_succ, wipeR, List.length_nil, List.nil_append])
  | (refine ⟨nd1 _, ?_⟩; try dsimp only [List.set_cons_zero, List.set_cons_succ, wipeR, List.length_nil, List.nil_append])
  | (refine ⟨nd01, ?_⟩; try dsimp only [List.set_cons_zero, List.set_cons_succ, wipeR, List.length_nil, List.nil_append])
  | (refine ⟨by decide, ?_⟩; try dsimp only [List.set_cons_zero, List.set_cons_succ, wipeR, List.length_nil, List.nil_append]))
local macro_rules | `(tactic| walk_at "st2") => `(tactic| first | (with_reducible refine ty_E ?_; walk_at "stE") | (with_reducible refine ty_S ?_; walk_at "stS") | (with_reducible refine ty_F ?_; walk_at "stF") | (with_reducible refine ty_I ?_; walk_at "stI") | (with_reducible refine ty_B ?_; walk_at "stB") | (with_reducible refine ty_A ?_; walk_at "stA") | walk_at "stR")
local macro_rules | `(tactic| walk_at "st") => `(tactic| first
  | ((with_reducible first | refine lf_var ?_ | refine lf_view ?_ | refine lf_sc ?_ | refine lf_anil ?_ | refine lf_views ?_ | refine lf_pre ?_ | refine lf_fin ?_ | refine lf_putb ?_ | refine lf_tod ?_ | refine lf_nx ?_ | refine lf_gn ?_ | refine lf_bys ?_); refine wp_val rfl ?_; try dsimp only [List.set_cons_zero, List.set_cons_succ, wipeR, List.length_nil, List.nil_append])
  | (with_reducible first | refine wp_acons ?_ | refine wp_op ?_ | refine wp_fz ?_ | refine wp_set ?_ | refine wp_seq ?_ | refine wp_call ?_ | refine wp_n ?_ | refine wp_bof ?_)
  | walk_at "st2")
def lw_odd : SS := sSet 2 (sFz (fLst (aCons (sC .non) (aCons (sC (.bl true)) (aCons (sC (.int 0)) (aCons (sC (.int 7)) (aCons (sC (.str ("" : Str))) (aCons (sTup aNil) (aCons (sTup (aCons (sC (.str ("a" : Str))) aNil)) (aCons (sFz (fLst (aCons (sC (.str ("a" : Str))) aNil))) (aCons (sFz fEmptyD) (aCons (sTup (aCons (sC (.str ("a.b" : Str))) aNil)) (aCons (sC (.str ("self" : Str))) (aCons (sC (.str ("head" : Str))) (aCons (sC (.str ("self.a" : Str))) (aCons (sC (.str ("a.head" : Str))) (aCons (sC (.str ("a.b.c" : Str))) (aCons (sC (.str ("V0000" : Str))) aNil))))))))))))))))))
def lw_e4 : SS := sSet 3 (sFz (fLc [4] (iRange1 (aCons (sC (.int 4)) aNil)) (gN 4) bYes (sOp dIx (sVar 2) (sCall [true, false] g_law_draw (aCons (sVar 1) (aCons (sC (.int 16)) aNil))))))
def lw_fx : SS := sSet 3 (sOp dAdd (sVar 3) (sFz (fLst (aCons (sC (.str ("int\n" : Str))) (aCons (sC (.str ("base.int\n" : Str))) (aCons (sC (.str ("int\n.a" : Str))) (aCons (sC (.str ("a.\nint" : Str))) (aCons (sC (.str ("T\n" : Str))) (aCons (sC (.str ("T0\n" : Str))) (aCons (sC (.str ("\nT" : Str))) (aCons (sC (.str ("\n" : Str))) aNil)))))))))))
def lw_ab : SS := sPar 8 9 (aCons (sOp dIx (sVar 2) (sCall [true, false] g_law_draw (aCons (sVar 1) (aCons (sC (.int 16)) aNil)))) (aCons (sOp dIx (sVar 2) (sCall [true, false] g_law_draw (aCons (sVar 1) (aCons (sC (.int 16)) aNil)))) aNil))
def lw_ck : SS := sIfS (bOr (bNot (bTru (sCall [false, false] g_law_classes_right (aCons (sVar 8) (aCons (sVar 9) aNil))))) (bNot (bTru (sCall [false, false] g_law_fields_right (aCons (sVar 8) (aCons (sVar 9) aNil)))))) (sRet (sC (.bl false))) sNx
def lw_re : SS := sRet (sAnd (sOp dIs2 (sCall [false] g_is_word (aCons (sC (.str ("base.int" : Str))) aNil)) (sC (.bl true))) (sAnd (sOp dIs2 (sCall [false] g_is_variable (aCons (sC (.str ("T" : Str))) aNil)) (sC (.bl true))) (sOp dIs2 (sCall [false] g_is_name (aCons (sC (.str ("int" : Str))) aNil)) (sC (.bl true)))))
def lw_body (a b c d e f g h : SS) : SS := sSeq (sSet 1 (sMu (fCallF g_law_pen (aCons (sVar 0) aNil))))
    (sSeq a (sSeq b (sSeq c (sSeq (sFor (iRange1 (aCons (sC (.int 12)) aNil)) (gN 4) d) (sSeq (sFor (iOf (sVar 3)) (gN 5) e) (sSeq f (sSeq g h)))))))
theorem lw_eq : b_law = lw_body lw_odd lw_e4 lw_fx la_b en_b lw_ab lw_ck lw_re := rfl
theorem odd_at {i : Int} (h0 : 0 ≤ i) (h : i < 16) : ∃ d, dIx (.lst odd) (.int i) = .ok d ∧ d ∈ odd := by
  obtain ⟨d, e, hd⟩ := atI_nn odd h0 (by exact h)
  exact ⟨d, by simp only [dIx, e], hd⟩
theorem pen_ok (ns : List Int) : ∃ d, g_law_pen [.scr ns] = .ok d ∧ PenOk 0 d := by
  refine ⟨pen (cut ns none (some 63)) 0 0, by kernel_rfl, cut ns none (some 63), 0, 0, rfl, ?_, by omega, by omega, by omega⟩
  unfold cut
  rw [show (63 : Int) = ((63 : Nat) : Int) from rfl, HT.sIx_nat, HT.sIx_none, List.length_take]
  omega
theorem odd_T (s0 s1 s2 s3 s4 s5 s6 s7 s8 s9 : Sl) (m : List Cell) : lw_odd [s0, s1, s2, s3, s4, s5, s6, s7, s8, s9] m = .ok (.nx, [s0, s1, .val (.lst odd), s3, s4, s5, s6, s7, s8, s9], m) := rfl
theorem re_T (r : List Sl) (m : List Cell) : lw_re r m = .ok (.rt (.bl true), r, m) := by
  have e1 : g_is_word [.v (.str "base.int")] = .ok (.bl true, []) := okB_eq (by decide +kernel)
  have e2 : g_is_variable [.v (.str "T")] = .ok (.bl true, []) := okB_eq (by decide +kernel)
  have e3 : g_is_name [.v (.str "int")] = .ok (.bl true, []) := okB_eq (by decide +kernel)
  refine wp_eq ?_
  unfold lw_re
  generalize g_is_word = G1 at *
  generalize g_is_variable = G2 at *
  generalize g_is_name = G3 at *
  repeat walk_at "st"
  refine wp_val e1 ?_
  repeat walk_at "st"
  refine wp_val e2 ?_
  repeat walk_at "st"
  refine wp_val e3 ?_
  repeat walk_at "st"
  rfl
theorem ck_T {a b : D} (ha : a ∈ odd) (hb : b ∈ odd) (s0 s1 s2 s3 s4 s5 s6 s7 : Sl) (m : List Cell) : lw_ck [s0, s1, s2, s3, s4, s5, s6, s7, .val a, .val b] m = .ok (.nx, [s0, s1, s2, s3, s4, s5, s6, s7, .val a, .val b], m) := by
  have e1 := cls_ok a b
  have e2 := fields_ok ha hb
  refine wp_eq ?_
  unfold lw_ck
  generalize g_law_classes_right = G1 at *
  generalize g_law_fields_right = G2 at *
  repeat walk_at "st"
  refine wp_val e1 ?_
  repeat walk_at "st"
  refine wp_val e2 ?_
  repeat walk_at "st"
theorem law_true : ∀ ns : List Int, ns.length ≤ 63 → g_law [.v (.scr ns)] = .ok (.bl true, []) := by
  intro ns _
  refine wp_eq ?_
  refine wp_fn ?_
  show wp (b_law [.val (.scr ns), .un, .un, .un, .un, .un, .un, .un, .un, .un] []) _
  rw [lw_eq]
  have ez : sizeLine = 16777216 := rfl
  obtain ⟨d, ed, hd⟩ := pen_ok ns
  have LA := @la_T
  have EN := @en_T
  have CK := @ck_T
  have RE := re_T
  have OD := odd_T
  generalize la_b = la at LA ⊢
  generalize en_b = en at EN ⊢
  generalize lw_ck = ck at CK ⊢
  generalize lw_re = re at RE ⊢
  generalize lw_odd = od at OD ⊢
  unfold lw_body
  refine wp_seqn (r1 := [.val (.scr ns), .ref 0, .un, .un, .un, .un, .un, .un, .un, .un]) (m1 := [⟨.own, d⟩]) ?_ ?_
  · refine wp_eq (wp_set (wp_mu ?_))
    refine wp_bind (wp_val rfl (wp_bind (wp_val rfl (wp_bind (wp_val ed (wp_ok rfl))))))
  refine wp_seqn (OD ..) ?_
  unfold lw_e4
  refine wp_seq (wp_set ?_)
  repeat walk_at "st"
  refine wp_lcY (fun i acc m => ∃ d3, m = [⟨.own, d3⟩] ∧ acc.length = i ∧ (∀ e ∈ acc, e ∈ odd) ∧ PenOk (i : Int) d3) _ _ ?_ ?_ ?_
  · exact ⟨d, rfl, rfl, (fun e he => nomatch he), hd.mono (by omega)⟩
  · rintro i d0 acc m e hl ⟨d3, rfl, hl2, ha, h3⟩
    obtain ⟨rfl, hi⟩ := rangeD_get e
    repeat walk_at "st"
    rw [q_draw]
    refine wp_mono (draw_ok h3 (by omega) (by omega) (by omega)) ?_
    rintro _ ⟨k, d4, rfl, hk0, hk, h4⟩
    repeat walk_at "st"
    obtain ⟨x, ex, hx⟩ := odd_at hk0 hk
    refine wp_val ex ?_
    repeat walk_at "st"
    refine ⟨by show i < 16777216; omega, d4, rfl, by simp [hl2], fun z hz => ?_, h4.mono (by omega)⟩
    rcases List.mem_append.mp hz with hz | hz
    · exact ha z hz
    · simp only [List.mem_cons, List.not_mem_nil, or_false] at hz
      subst hz; exact hx
  · rintro acc m hl ⟨d3, rfl, hl2, ha, h3⟩
    rw [rangeD_len] at hl h3
    have hl4 : acc.length = 4 := hl
    repeat walk_at "st"
    have SA : ∀ e ∈ acc, Same6 e := fun e he => same_odd (List.mem_append_left _ (ha e he))
    have hfx : wp (lw_fx [.val (.scr ns), .ref 0, .val (.lst odd), .val (.lst acc), .un, .un, .un, .un, .un, .un] [⟨.own, d3⟩]) fun q => q = (.nx, [.val (.scr ns), .ref 0, .val (.lst odd), .val (.lst (acc ++ fixed)), .un, .un, .un, .un, .un, .un], [⟨.own, d3⟩]) := by
      unfold lw_fx
      repeat walk_at "st"
      refine wp_addL (by show acc.length + 8 ≤ sizeLine; omega) ?_
      repeat walk_at "st"
      rfl
    refine wp_mono hfx ?_
    rintro _ rfl
    have SF : ∀ e ∈ acc ++ fixed, Same6 e := fun e he => by
      rcases List.mem_append.mp he with he | he
      · exact SA e he
      · exact same_odd (List.mem_append_right _ he)
    have lF : (acc ++ fixed).length = 12 := by rw [List.length_append, hl4]; rfl
    repeat walk_at "st"
    refine wp_loop (fun i r m => ∃ (d' : D) (es : List D) (s4 s6 : Sl), r = [.val (.scr ns), .ref 0, .val (.lst odd), .val (.lst es), s4, .un, s6, .un, .un, .un] ∧ m = [⟨.own, d'⟩] ∧ es.length = 12 + 2 * i ∧ (∀ e ∈ es, Same6 e) ∧ PenOk (4 + 63 * (i : Int)) d') _ _ _ ?_ ?_ ?_
    · exact ⟨d3, _, _, _, rfl, rfl, by rw [lF], SF, h3.mono (by omega)⟩
    · rintro i d0 r m e ⟨d', es, s4, s6, rfl, rfl, le, he, h'⟩
      obtain ⟨rfl, hi⟩ := rangeD_get e
      have hi : i < 12 := hi
      refine wp_val rfl ?_
      refine LA h' (by omega) (by omega) he fun d2 es2 x6 h2 l2 he2 => ?_
      exact ⟨rfl, d2, es2, _, _, rfl, rfl, by omega, he2, h2.mono (by omega)⟩
    · rintro r m ⟨d', es, s4, s6, rfl, rfl, le, he, h'⟩
      rw [rangeD_len] at le h'
      repeat walk_at "st"
      refine wp_loop (fun i r m => ∃ (s5 s7 : Sl), r = [.val (.scr ns), .ref 0, .val (.lst odd), .val (.lst es), s4, s5, s6, s7, .un, .un] ∧ m = [⟨.own, d'⟩]) _ _ _ ?_ ?_ ?_
      · exact ⟨_, _, rfl, rfl⟩
      · rintro i d0 r m e ⟨s5, s7, rfl, rfl⟩
        refine wp_val rfl ?_
        refine EN (he d0 (List.mem_of_getElem? e)) fun x7 => ?_
        exact ⟨rfl, _, _, rfl, rfl⟩
      · rintro r m ⟨s5, s7, rfl, rfl⟩
        unfold lw_ab
        refine wp_seq (wp_par ?_)
        rw [q_draw]
        repeat walk_at "st"
        refine wp_mono (draw_ok h' (by omega) (by omega) (by omega)) ?_
        rintro _ ⟨k1, d4, rfl, hk0, hk, h4⟩
        repeat walk_at "st"
        obtain ⟨a, ea, hoa⟩ := odd_at hk0 hk
        refine wp_val ea ?_
        repeat walk_at "st"
        refine wp_mono (draw_ok h4 (by omega) (by omega) (by omega)) ?_
        rintro _ ⟨k2, d5, rfl, hq0, hq, h5⟩
        repeat walk_at "st"
        obtain ⟨b, eb, hob⟩ := odd_at hq0 hq
        refine wp_val eb ?_
        repeat walk_at "st"
        refine ⟨_, _, rfl, ?_⟩
        refine wp_seqn (CK hoa hob ..) ?_
        refine wp_val (RE ..) ?_
        repeat walk_at "st"
end P01
set_option Elab.async false
open PySem PySem.W PyProof.Rows
set_option maxRecDepth 100000 in
set_option maxHeartbeats 0 in
theorem PySem.Challenge.cw_nevermet_k01_names_words_and_variables_holds : PySem.Challenge.rw_nevermet_k01_names_words_and_variables.Holds := by
  w_on; o_law; k_head; (case hw => w_witness2)
  k_fill
  refine Nv.walkG2 (l := PySem.Challenge.rw_nevermet_k01_names_words_and_variables) (k := 5) (x := "_law_script") (g := P01.g_law) (fun _ mg => Nv.clOf ["NeverError", "InvalidTerm", "InvalidRule", "InvalidFunction", "InvalidPackage", "NoHouse", "Refused", "NotNext", "Mismatch", "BadPaper", "InvalidText", "InvalidCommand", "InvalidLimit", "UnknownWord", "NoAnswer", "NoEdition", "NothingToUndo", "TooMany"] mg) rfl rfl (by decide +kernel) ⟨rfl, by decide, by decide⟩ (fun w h Y => PySem.W.kIn_of Y) ?F P01.law_true
  case F =>
    intro w mg fa h KX G hmg
    refine' P01.prog_ok KX G hmg ?z_KeyError ?z_LookupError ?z_OverflowError ?z_ValueError ?z_abs ?z_all ?z_int ?z_isinstance ?z_len ?z_list ?z_range ?z_repr ?z_str (Nv.mkDef ?a_is_name ?l_is_name ?c_is_name ?k_is_name) (Nv.mkDef ?a_is_word ?l_is_word ?c_is_word ?k_is_word) (Nv.mkDef ?a_is_variable ?l_is_variable ?c_is_variable ?k_is_variable) (Nv.mkDef ?a_law_pen ?l_law_pen ?c_law_pen ?k_law_pen) (Nv.mkDef ?a_law_draw ?l_law_draw ?c_law_draw ?k_law_draw) (Nv.mkDef ?a_law_is_name ?l_law_is_name ?c_law_is_name ?k_law_is_name) (Nv.mkDef ?a_law_is_word ?l_law_is_word ?c_law_is_word ?k_law_is_word) (Nv.mkDef ?a_law_is_variable ?l_law_is_variable ?c_law_is_variable ?k_law_is_variable) (Nv.mkDef ?a_law_letters ?l_law_letters ?c_law_letters ?k_law_letters) (Nv.mkDef ?a_law_text ?l_law_text ?c_law_text ?k_law_text) (Nv.mkDef ?a_law_bent ?l_law_bent ?c_law_bent ?k_law_bent) (Nv.mkDef ?a_law_made ?l_law_made ?c_law_made ?k_law_made) (Nv.mkDef ?a_law_marks ?l_law_marks ?c_law_marks ?k_law_marks) (Nv.mkDef ?a_law_classes_right ?l_law_classes_right ?c_law_classes_right ?k_law_classes_right) (Nv.mkDef ?a_law_fields_right ?l_law_fields_right ?c_law_fields_right ?k_law_fields_right) (Nv.mkDef ?a_law ?l_law ?c_law ?k_law) (Nv.conT2 ?k_BARRED ?kl_BARRED) (Nv.conS ?k_CAPITALS) (Nv.conS ?k_FIGURES) (Nv.conS ?k_LETTERS) (Nv.conI ?k_LONGEST_NAME) (Nv.conI ?k_MOST_FIGURES) ?nX_NeverError ?nX_InvalidTerm ?nX_InvalidRule ?nX_InvalidFunction ?nX_InvalidPackage ?nX_NoHouse ?nX_Refused ?nX_NotNext ?nX_Mismatch ?nX_BadPaper ?nX_InvalidText ?nX_InvalidCommand ?nX_InvalidLimit ?nX_UnknownWord ?nX_NoAnswer ?nX_NoEdition ?nX_NothingToUndo ?nX_TooMany ?xh_InvalidTerm ?xo_InvalidTerm ?xs_InvalidTerm ?xm_InvalidTerm ?xt_InvalidTerm ?xk_InvalidTerm ?xn_InvalidTerm_thing (Nv.mkMet ?ml_InvalidTerm_init__ ?mcd_InvalidTerm_init__ ?mk2_InvalidTerm_init__) ⟨?xa_InvalidTerm, ?xb_InvalidTerm, ?xc_InvalidTerm, ?xd_InvalidTerm, ?xe_InvalidTerm, ?xf_InvalidTerm, ?xg_InvalidTerm, ?xj_InvalidTerm⟩ ?xh_InvalidRule ?xo_InvalidRule ?xs_InvalidRule ?xm_InvalidRule ?xt_InvalidRule ?xk_InvalidRule ?xn_InvalidRule_reason (Nv.mkMet ?ml_InvalidRule_init__ ?mcd_InvalidRule_init__ ?mk2_InvalidRule_init__) ⟨?xa_InvalidRule, ?xb_InvalidRule, ?xc_InvalidRule, ?xd_InvalidRule, ?xe_InvalidRule, ?xf_InvalidRule, ?xg_InvalidRule, ?xj_InvalidRule⟩ ?xh_InvalidFunction ?xo_InvalidFunction ?xs_InvalidFunction ?xm_InvalidFunction ?xt_InvalidFunction ?xk_InvalidFunction ?xn_InvalidFunction_reason (Nv.mkMet ?ml_InvalidFunction_init__ ?mcd_InvalidFunction_init__ ?mk2_InvalidFunction_init__) ⟨?xa_InvalidFunction, ?xb_InvalidFunction, ?xc_InvalidFunction, ?xd_InvalidFunction, ?xe_InvalidFunction, ?xf_InvalidFunction, ?xg_InvalidFunction, ?xj_InvalidFunction⟩ ?xh_InvalidPackage ?xo_InvalidPackage ?xs_InvalidPackage ?xm_InvalidPackage ?xt_InvalidPackage ?xk_InvalidPackage ?xn_InvalidPackage_field ?xn_InvalidPackage_index (Nv.mkMet ?ml_InvalidPackage_init__ ?mcd_InvalidPackage_init__ ?mk2_InvalidPackage_init__) ⟨?xa_InvalidPackage, ?xb_InvalidPackage, ?xc_InvalidPackage, ?xd_InvalidPackage, ?xe_InvalidPackage, ?xf_InvalidPackage, ?xg_InvalidPackage, ?xj_InvalidPackage⟩ ?xh_NoHouse ?xo_NoHouse ?xs_NoHouse ?xm_NoHouse ?xt_NoHouse ?xk_NoHouse ?xn_NoHouse_reason ?xn_NoHouse_name (Nv.mkMet ?ml_NoHouse_init__ ?mcd_NoHouse_init__ ?mk2_NoHouse_init__) ⟨?xa_NoHouse, ?xb_NoHouse, ?xc_NoHouse, ?xd_NoHouse, ?xe_NoHouse, ?xf_NoHouse, ?xg_NoHouse, ?xj_NoHouse⟩ ?xh_Refused ?xo_Refused ?xs_Refused ?xm_Refused ?xt_Refused ?xk_Refused ?xn_Refused_complaints (Nv.mkMet ?ml_Refused_init__ ?mcd_Refused_init__ ?mk2_Refused_init__) ⟨?xa_Refused, ?xb_Refused, ?xc_Refused, ?xd_Refused, ?xe_Refused, ?xf_Refused, ?xg_Refused, ?xj_Refused⟩ ?xh_NotNext ?xo_NotNext ?xs_NotNext ?xm_NotNext ?xt_NotNext ?xk_NotNext ?xn_NotNext_field ?xn_NotNext_index (Nv.mkMet ?ml_NotNext_init__ ?mcd_NotNext_init__ ?mk2_NotNext_init__) ⟨?xa_NotNext, ?xb_NotNext, ?xc_NotNext, ?xd_NotNext, ?xe_NotNext, ?xf_NotNext, ?xg_NotNext, ?xj_NotNext⟩ ?xh_Mismatch ?xo_Mismatch ?xs_Mismatch ?xm_Mismatch ?xt_Mismatch ?xk_Mismatch ?xn_Mismatch_name ?xn_Mismatch_other (Nv.mkMet ?ml_Mismatch_init__ ?mcd_Mismatch_init__ ?mk2_Mismatch_init__) ⟨?xa_Mismatch, ?xb_Mismatch, ?xc_Mismatch, ?xd_Mismatch, ?xe_Mismatch, ?xf_Mismatch, ?xg_Mismatch, ?xj_Mismatch⟩ ?xh_BadPaper ?xo_BadPaper ?xs_BadPaper ?xm_BadPaper ?xt_BadPaper ?xk_BadPaper ?xn_BadPaper_index (Nv.mkMet ?ml_BadPaper_init__ ?mcd_BadPaper_init__ ?mk2_BadPaper_init__) ⟨?xa_BadPaper, ?xb_BadPaper, ?xc_BadPaper, ?xd_BadPaper, ?xe_BadPaper, ?xf_BadPaper, ?xg_BadPaper, ?xj_BadPaper⟩ ?xh_InvalidText ?xo_InvalidText ?xs_InvalidText ?xm_InvalidText ?xt_InvalidText ?xk_InvalidText ?xn_InvalidText_line (Nv.mkMet ?ml_InvalidText_init__ ?mcd_InvalidText_init__ ?mk2_InvalidText_init__) ⟨?xa_InvalidText, ?xb_InvalidText, ?xc_InvalidText, ?xd_InvalidText, ?xe_InvalidText, ?xf_InvalidText, ?xg_InvalidText, ?xj_InvalidText⟩ ?xh_InvalidCommand ?xo_InvalidCommand ?xs_InvalidCommand ?xm_InvalidCommand ?xt_InvalidCommand ?xk_InvalidCommand ?xn_InvalidCommand_word (Nv.mkMet ?ml_InvalidCommand_init__ ?mcd_InvalidCommand_init__ ?mk2_InvalidCommand_init__) ⟨?xa_InvalidCommand, ?xb_InvalidCommand, ?xc_InvalidCommand, ?xd_InvalidCommand, ?xe_InvalidCommand, ?xf_InvalidCommand, ?xg_InvalidCommand, ?xj_InvalidCommand⟩ ?xh_InvalidLimit ?xo_InvalidLimit ?xs_InvalidLimit ?xm_InvalidLimit ?xt_InvalidLimit ?xk_InvalidLimit ?xn_InvalidLimit_limit (Nv.mkMet ?ml_InvalidLimit_init__ ?mcd_InvalidLimit_init__ ?mk2_InvalidLimit_init__) ⟨?xa_InvalidLimit, ?xb_InvalidLimit, ?xc_InvalidLimit, ?xd_InvalidLimit, ?xe_InvalidLimit, ?xf_InvalidLimit, ?xg_InvalidLimit, ?xj_InvalidLimit⟩ ?xh_UnknownWord ?xo_UnknownWord ?xs_UnknownWord ?xm_UnknownWord ?xt_UnknownWord ?xk_UnknownWord ?xn_UnknownWord_word (Nv.mkMet ?ml_UnknownWord_init__ ?mcd_UnknownWord_init__ ?mk2_UnknownWord_init__) ⟨?xa_UnknownWord, ?xb_UnknownWord, ?xc_UnknownWord, ?xd_UnknownWord, ?xe_UnknownWord, ?xf_UnknownWord, ?xg_UnknownWord, ?xj_UnknownWord⟩ ?xh_NoAnswer ?xo_NoAnswer ?xs_NoAnswer ?xm_NoAnswer ?xt_NoAnswer ?xk_NoAnswer ?xn_NoAnswer_question (Nv.mkMet ?ml_NoAnswer_init__ ?mcd_NoAnswer_init__ ?mk2_NoAnswer_init__) ⟨?xa_NoAnswer, ?xb_NoAnswer, ?xc_NoAnswer, ?xd_NoAnswer, ?xe_NoAnswer, ?xf_NoAnswer, ?xg_NoAnswer, ?xj_NoAnswer⟩ ?xh_NoEdition ?xo_NoEdition ?xs_NoEdition ?xm_NoEdition ?xt_NoEdition ?xk_NoEdition ?xn_NoEdition_name ?xn_NoEdition_edition (Nv.mkMet ?ml_NoEdition_init__ ?mcd_NoEdition_init__ ?mk2_NoEdition_init__) ⟨?xa_NoEdition, ?xb_NoEdition, ?xc_NoEdition, ?xd_NoEdition, ?xe_NoEdition, ?xf_NoEdition, ?xg_NoEdition, ?xj_NoEdition⟩ ?xh_NothingToUndo ?xo_NothingToUndo ?xs_NothingToUndo ?xm_NothingToUndo ?xt_NothingToUndo ?xk_NothingToUndo (Nv.mkMet ?ml_NothingToUndo_init__ ?mcd_NothingToUndo_init__ ?mk2_NothingToUndo_init__) ⟨?xa_NothingToUndo, ?xb_NothingToUndo, ?xc_NothingToUndo, ?xd_NothingToUndo, ?xe_NothingToUndo, ?xf_NothingToUndo, ?xg_NothingToUndo, ?xj_NothingToUndo⟩ ?xh_TooMany ?xo_TooMany ?xs_TooMany ?xm_TooMany ?xt_TooMany ?xk_TooMany ?xn_TooMany_limit (Nv.mkMet ?ml_TooMany_init__ ?mcd_TooMany_init__ ?mk2_TooMany_init__) ⟨?xa_TooMany, ?xb_TooMany, ?xc_TooMany, ?xd_TooMany, ?xe_TooMany, ?xf_TooMany, ?xg_TooMany, ?xj_TooMany⟩ ⟨?xr1_NeverError, ?xr2_NeverError⟩ ?xl_NeverError ?ic_InvalidTerm_BadPaper ?ic_InvalidRule_BadPaper ?ic_InvalidFunction_BadPaper ?ic_InvalidPackage_BadPaper ?ic_NoHouse_BadPaper ?ic_Refused_BadPaper ?ic_NotNext_BadPaper ?ic_Mismatch_BadPaper ?ic_BadPaper_BadPaper ?ic_InvalidText_BadPaper ?ic_InvalidCommand_BadPaper ?ic_InvalidLimit_BadPaper ?ic_UnknownWord_BadPaper ?ic_NoAnswer_BadPaper ?ic_NoEdition_BadPaper ?ic_NothingToUndo_BadPaper ?ic_TooMany_BadPaper ?ic_InvalidTerm_InvalidCommand ?ic_InvalidRule_InvalidCommand ?ic_InvalidFunction_InvalidCommand ?ic_InvalidPackage_InvalidCommand ?ic_NoHouse_InvalidCommand ?ic_Refused_InvalidCommand ?ic_NotNext_InvalidCommand ?ic_Mismatch_InvalidCommand ?ic_BadPaper_InvalidCommand ?ic_InvalidText_InvalidCommand ?ic_InvalidCommand_InvalidCommand ?ic_InvalidLimit_InvalidCommand ?ic_UnknownWord_InvalidCommand ?ic_NoAnswer_InvalidCommand ?ic_NoEdition_InvalidCommand ?ic_NothingToUndo_InvalidCommand ?ic_TooMany_InvalidCommand ?ic_InvalidTerm_InvalidFunction ?ic_InvalidRule_InvalidFunction ?ic_InvalidFunction_InvalidFunction ?ic_InvalidPackage_InvalidFunction ?ic_NoHouse_InvalidFunction ?ic_Refused_InvalidFunction ?ic_NotNext_InvalidFunction ?ic_Mismatch_InvalidFunction ?ic_BadPaper_InvalidFunction ?ic_InvalidText_InvalidFunction ?ic_InvalidCommand_InvalidFunction ?ic_InvalidLimit_InvalidFunction ?ic_UnknownWord_InvalidFunction ?ic_NoAnswer_InvalidFunction ?ic_NoEdition_InvalidFunction ?ic_NothingToUndo_InvalidFunction ?ic_TooMany_InvalidFunction ?ic_InvalidTerm_InvalidLimit ?ic_InvalidRule_InvalidLimit ?ic_InvalidFunction_InvalidLimit ?ic_InvalidPackage_InvalidLimit ?ic_NoHouse_InvalidLimit ?ic_Refused_InvalidLimit ?ic_NotNext_InvalidLimit ?ic_Mismatch_InvalidLimit ?ic_BadPaper_InvalidLimit ?ic_InvalidText_InvalidLimit ?ic_InvalidCommand_InvalidLimit ?ic_InvalidLimit_InvalidLimit ?ic_UnknownWord_InvalidLimit ?ic_NoAnswer_InvalidLimit ?ic_NoEdition_InvalidLimit ?ic_NothingToUndo_InvalidLimit ?ic_TooMany_InvalidLimit ?ic_InvalidTerm_InvalidPackage ?ic_InvalidRule_InvalidPackage ?ic_InvalidFunction_InvalidPackage ?ic_InvalidPackage_InvalidPackage ?ic_NoHouse_InvalidPackage ?ic_Refused_InvalidPackage ?ic_NotNext_InvalidPackage ?ic_Mismatch_InvalidPackage ?ic_BadPaper_InvalidPackage ?ic_InvalidText_InvalidPackage ?ic_InvalidCommand_InvalidPackage ?ic_InvalidLimit_InvalidPackage ?ic_UnknownWord_InvalidPackage ?ic_NoAnswer_InvalidPackage ?ic_NoEdition_InvalidPackage ?ic_NothingToUndo_InvalidPackage ?ic_TooMany_InvalidPackage ?ic_InvalidTerm_InvalidRule ?ic_InvalidRule_InvalidRule ?ic_InvalidFunction_InvalidRule ?ic_InvalidPackage_InvalidRule ?ic_NoHouse_InvalidRule ?ic_Refused_InvalidRule ?ic_NotNext_InvalidRule ?ic_Mismatch_InvalidRule ?ic_BadPaper_InvalidRule ?ic_InvalidText_InvalidRule ?ic_InvalidCommand_InvalidRule ?ic_InvalidLimit_InvalidRule ?ic_UnknownWord_InvalidRule ?ic_NoAnswer_InvalidRule ?ic_NoEdition_InvalidRule ?ic_NothingToUndo_InvalidRule ?ic_TooMany_InvalidRule ?ic_InvalidTerm_InvalidTerm ?ic_InvalidRule_InvalidTerm ?ic_InvalidFunction_InvalidTerm ?ic_InvalidPackage_InvalidTerm ?ic_NoHouse_InvalidTerm ?ic_Refused_InvalidTerm ?ic_NotNext_InvalidTerm ?ic_Mismatch_InvalidTerm ?ic_BadPaper_InvalidTerm ?ic_InvalidText_InvalidTerm ?ic_InvalidCommand_InvalidTerm ?ic_InvalidLimit_InvalidTerm ?ic_UnknownWord_InvalidTerm ?ic_NoAnswer_InvalidTerm ?ic_NoEdition_InvalidTerm ?ic_NothingToUndo_InvalidTerm ?ic_TooMany_InvalidTerm ?ic_InvalidTerm_InvalidText ?ic_InvalidRule_InvalidText ?ic_InvalidFunction_InvalidText ?ic_InvalidPackage_InvalidText ?ic_NoHouse_InvalidText ?ic_Refused_InvalidText ?ic_NotNext_InvalidText ?ic_Mismatch_InvalidText ?ic_BadPaper_InvalidText ?ic_InvalidText_InvalidText ?ic_InvalidCommand_InvalidText ?ic_InvalidLimit_InvalidText ?ic_UnknownWord_InvalidText ?ic_NoAnswer_InvalidText ?ic_NoEdition_InvalidText ?ic_NothingToUndo_InvalidText ?ic_TooMany_InvalidText ?ic_InvalidTerm_Mismatch ?ic_InvalidRule_Mismatch ?ic_InvalidFunction_Mismatch ?ic_InvalidPackage_Mismatch ?ic_NoHouse_Mismatch ?ic_Refused_Mismatch ?ic_NotNext_Mismatch ?ic_Mismatch_Mismatch ?ic_BadPaper_Mismatch ?ic_InvalidText_Mismatch ?ic_InvalidCommand_Mismatch ?ic_InvalidLimit_Mismatch ?ic_UnknownWord_Mismatch ?ic_NoAnswer_Mismatch ?ic_NoEdition_Mismatch ?ic_NothingToUndo_Mismatch ?ic_TooMany_Mismatch ?ic_InvalidTerm_NeverError ?ic_InvalidRule_NeverError ?ic_InvalidFunction_NeverError ?ic_InvalidPackage_NeverError ?ic_NoHouse_NeverError ?ic_Refused_NeverError ?ic_NotNext_NeverError ?ic_Mismatch_NeverError ?ic_BadPaper_NeverError ?ic_InvalidText_NeverError ?ic_InvalidCommand_NeverError ?ic_InvalidLimit_NeverError ?ic_UnknownWord_NeverError ?ic_NoAnswer_NeverError ?ic_NoEdition_NeverError ?ic_NothingToUndo_NeverError ?ic_TooMany_NeverError ?ic_InvalidTerm_NoAnswer ?ic_InvalidRule_NoAnswer ?ic_InvalidFunction_NoAnswer ?ic_InvalidPackage_NoAnswer ?ic_NoHouse_NoAnswer ?ic_Refused_NoAnswer ?ic_NotNext_NoAnswer ?ic_Mismatch_NoAnswer ?ic_BadPaper_NoAnswer ?ic_InvalidText_NoAnswer ?ic_InvalidCommand_NoAnswer ?ic_InvalidLimit_NoAnswer ?ic_UnknownWord_NoAnswer ?ic_NoAnswer_NoAnswer ?ic_NoEdition_NoAnswer ?ic_NothingToUndo_NoAnswer ?ic_TooMany_NoAnswer ?ic_InvalidTerm_NoEdition ?ic_InvalidRule_NoEdition ?ic_InvalidFunction_NoEdition ?ic_InvalidPackage_NoEdition ?ic_NoHouse_NoEdition ?ic_Refused_NoEdition ?ic_NotNext_NoEdition ?ic_Mismatch_NoEdition ?ic_BadPaper_NoEdition ?ic_InvalidText_NoEdition ?ic_InvalidCommand_NoEdition ?ic_InvalidLimit_NoEdition ?ic_UnknownWord_NoEdition ?ic_NoAnswer_NoEdition ?ic_NoEdition_NoEdition ?ic_NothingToUndo_NoEdition ?ic_TooMany_NoEdition ?ic_InvalidTerm_NoHouse ?ic_InvalidRule_NoHouse ?ic_InvalidFunction_NoHouse ?ic_InvalidPackage_NoHouse ?ic_NoHouse_NoHouse ?ic_Refused_NoHouse ?ic_NotNext_NoHouse ?ic_Mismatch_NoHouse ?ic_BadPaper_NoHouse ?ic_InvalidText_NoHouse ?ic_InvalidCommand_NoHouse ?ic_InvalidLimit_NoHouse ?ic_UnknownWord_NoHouse ?ic_NoAnswer_NoHouse ?ic_NoEdition_NoHouse ?ic_NothingToUndo_NoHouse ?ic_TooMany_NoHouse ?ic_InvalidTerm_NotNext ?ic_InvalidRule_NotNext ?ic_InvalidFunction_NotNext ?ic_InvalidPackage_NotNext ?ic_NoHouse_NotNext ?ic_Refused_NotNext ?ic_NotNext_NotNext ?ic_Mismatch_NotNext ?ic_BadPaper_NotNext ?ic_InvalidText_NotNext ?ic_InvalidCommand_NotNext ?ic_InvalidLimit_NotNext ?ic_UnknownWord_NotNext ?ic_NoAnswer_NotNext ?ic_NoEdition_NotNext ?ic_NothingToUndo_NotNext ?ic_TooMany_NotNext ?ic_InvalidTerm_NothingToUndo ?ic_InvalidRule_NothingToUndo ?ic_InvalidFunction_NothingToUndo ?ic_InvalidPackage_NothingToUndo ?ic_NoHouse_NothingToUndo ?ic_Refused_NothingToUndo ?ic_NotNext_NothingToUndo ?ic_Mismatch_NothingToUndo ?ic_BadPaper_NothingToUndo ?ic_InvalidText_NothingToUndo ?ic_InvalidCommand_NothingToUndo ?ic_InvalidLimit_NothingToUndo ?ic_UnknownWord_NothingToUndo ?ic_NoAnswer_NothingToUndo ?ic_NoEdition_NothingToUndo ?ic_NothingToUndo_NothingToUndo ?ic_TooMany_NothingToUndo ?ic_InvalidTerm_Refused ?ic_InvalidRule_Refused ?ic_InvalidFunction_Refused ?ic_InvalidPackage_Refused ?ic_NoHouse_Refused ?ic_Refused_Refused ?ic_NotNext_Refused ?ic_Mismatch_Refused ?ic_BadPaper_Refused ?ic_InvalidText_Refused ?ic_InvalidCommand_Refused ?ic_InvalidLimit_Refused ?ic_UnknownWord_Refused ?ic_NoAnswer_Refused ?ic_NoEdition_Refused ?ic_NothingToUndo_Refused ?ic_TooMany_Refused ?ic_InvalidTerm_TooMany ?ic_InvalidRule_TooMany ?ic_InvalidFunction_TooMany ?ic_InvalidPackage_TooMany ?ic_NoHouse_TooMany ?ic_Refused_TooMany ?ic_NotNext_TooMany ?ic_Mismatch_TooMany ?ic_BadPaper_TooMany ?ic_InvalidText_TooMany ?ic_InvalidCommand_TooMany ?ic_InvalidLimit_TooMany ?ic_UnknownWord_TooMany ?ic_NoAnswer_TooMany ?ic_NoEdition_TooMany ?ic_NothingToUndo_TooMany ?ic_TooMany_TooMany ?ic_InvalidTerm_UnknownWord ?ic_InvalidRule_UnknownWord ?ic_InvalidFunction_UnknownWord ?ic_InvalidPackage_UnknownWord ?ic_NoHouse_UnknownWord ?ic_Refused_UnknownWord ?ic_NotNext_UnknownWord ?ic_Mismatch_UnknownWord ?ic_BadPaper_UnknownWord ?ic_InvalidText_UnknownWord ?ic_InvalidCommand_UnknownWord ?ic_InvalidLimit_UnknownWord ?ic_UnknownWord_UnknownWord ?ic_NoAnswer_UnknownWord ?ic_NoEdition_UnknownWord ?ic_NothingToUndo_UnknownWord ?ic_TooMany_UnknownWord ?ic_InvalidTerm_KeyError ?ic_InvalidRule_KeyError ?ic_InvalidFunction_KeyError ?ic_InvalidPackage_KeyError ?ic_NoHouse_KeyError ?ic_Refused_KeyError ?ic_NotNext_KeyError ?ic_Mismatch_KeyError ?ic_BadPaper_KeyError ?ic_InvalidText_KeyError ?ic_InvalidCommand_KeyError ?ic_InvalidLimit_KeyError ?ic_UnknownWord_KeyError ?ic_NoAnswer_KeyError ?ic_NoEdition_KeyError ?ic_NothingToUndo_KeyError ?ic_TooMany_KeyError ?ic_InvalidTerm_LookupError ?ic_InvalidRule_LookupError ?ic_InvalidFunction_LookupError ?ic_InvalidPackage_LookupError ?ic_NoHouse_LookupError ?ic_Refused_LookupError ?ic_NotNext_LookupError ?ic_Mismatch_LookupError ?ic_BadPaper_LookupError ?ic_InvalidText_LookupError ?ic_InvalidCommand_LookupError ?ic_InvalidLimit_LookupError ?ic_UnknownWord_LookupError ?ic_NoAnswer_LookupError ?ic_NoEdition_LookupError ?ic_NothingToUndo_LookupError ?ic_TooMany_LookupError ?ic_InvalidTerm_OverflowError ?ic_InvalidRule_OverflowError ?ic_InvalidFunction_OverflowError ?ic_InvalidPackage_OverflowError ?ic_NoHouse_OverflowError ?ic_Refused_OverflowError ?ic_NotNext_OverflowError ?ic_Mismatch_OverflowError ?ic_BadPaper_OverflowError ?ic_InvalidText_OverflowError ?ic_InvalidCommand_OverflowError ?ic_InvalidLimit_OverflowError ?ic_UnknownWord_OverflowError ?ic_NoAnswer_OverflowError ?ic_NoEdition_OverflowError ?ic_NothingToUndo_OverflowError ?ic_TooMany_OverflowError ?ic_InvalidTerm_ValueError ?ic_InvalidRule_ValueError ?ic_InvalidFunction_ValueError ?ic_InvalidPackage_ValueError ?ic_NoHouse_ValueError ?ic_Refused_ValueError ?ic_NotNext_ValueError ?ic_Mismatch_ValueError ?ic_BadPaper_ValueError ?ic_InvalidText_ValueError ?ic_InvalidCommand_ValueError ?ic_InvalidLimit_ValueError ?ic_UnknownWord_ValueError ?ic_NoAnswer_ValueError ?ic_NoEdition_ValueError ?ic_NothingToUndo_ValueError ?ic_TooMany_ValueError
    (case z_KeyError => k_is)
    (case z_LookupError => k_is)
    (case z_OverflowError => k_is)
    (case z_ValueError => k_is)
    (case z_abs => k_is)
    (case z_all => k_is)
    (case z_int => k_is)
    (case z_isinstance => k_is)
    (case z_len => k_is)
    (case z_list => k_is)
    (case z_range => k_is)
    (case z_repr => k_is)
    (case z_str => k_is)
    (case a_is_name => k_is)
    (case l_is_name => k_is)
    (case c_is_name => k_is)
    (case k_is_name => k_is)
    (case a_is_word => k_is)
    (case l_is_word => k_is)
    (case c_is_word => k_is)
    (case k_is_word => k_is)
    (case a_is_variable => k_is)
    (case l_is_variable => k_is)
    (case c_is_variable => k_is)
    (case k_is_variable => k_is)
    (case a_law_pen => k_is)
    (case l_law_pen => k_is)
    (case c_law_pen => k_is)
    (case k_law_pen => k_is)
    (case a_law_draw => k_is)
    (case l_law_draw => k_is)
    (case c_law_draw => k_is)
    (case k_law_draw => k_is)
    (case a_law_is_name => k_is)
    (case l_law_is_name => k_is)
    (case c_law_is_name => k_is)
    (case k_law_is_name => k_is)
    (case a_law_is_word => k_is)
    (case l_law_is_word => k_is)
    (case c_law_is_word => k_is)
    (case k_law_is_word => k_is)
    (case a_law_is_variable => k_is)
    (case l_law_is_variable => k_is)
    (case c_law_is_variable => k_is)
    (case k_law_is_variable => k_is)
    (case a_law_letters => k_is)
    (case l_law_letters => k_is)
    (case c_law_letters => k_is)
    (case k_law_letters => k_is)
    (case a_law_text => k_is)
    (case l_law_text => k_is)
    (case c_law_text => k_is)
    (case k_law_text => k_is)
    (case a_law_bent => k_is)
    (case l_law_bent => k_is)
    (case c_law_bent => k_is)
    (case k_law_bent => k_is)
    (case a_law_made => k_is)
    (case l_law_made => k_is)
    (case c_law_made => k_is)
    (case k_law_made => k_is)
    (case a_law_marks => k_is)
    (case l_law_marks => k_is)
    (case c_law_marks => k_is)
    (case k_law_marks => k_is)
    (case a_law_classes_right => k_is)
    (case l_law_classes_right => k_is)
    (case c_law_classes_right => k_is)
    (case k_law_classes_right => k_is)
    (case a_law_fields_right => k_is)
    (case l_law_fields_right => k_is)
    (case c_law_fields_right => k_is)
    (case k_law_fields_right => k_is)
    (case a_law => k_is)
    (case l_law => k_is)
    (case c_law => k_is)
    (case k_law => k_is)
    (case k_BARRED => k_is)
    (case kl_BARRED => k_is)
    (case k_CAPITALS => k_is)
    (case k_FIGURES => k_is)
    (case k_LETTERS => k_is)
    (case k_LONGEST_NAME => k_is)
    (case k_MOST_FIGURES => k_is)
    (case nX_NeverError => k_is)
    (case nX_InvalidTerm => k_is)
    (case nX_InvalidRule => k_is)
    (case nX_InvalidFunction => k_is)
    (case nX_InvalidPackage => k_is)
    (case nX_NoHouse => k_is)
    (case nX_Refused => k_is)
    (case nX_NotNext => k_is)
    (case nX_Mismatch => k_is)
    (case nX_BadPaper => k_is)
    (case nX_InvalidText => k_is)
    (case nX_InvalidCommand => k_is)
    (case nX_InvalidLimit => k_is)
    (case nX_UnknownWord => k_is)
    (case nX_NoAnswer => k_is)
    (case nX_NoEdition => k_is)
    (case nX_NothingToUndo => k_is)
    (case nX_TooMany => k_is)
    (case xh_InvalidTerm => kx_is)
    (case xo_InvalidTerm => kx_is)
    (case xs_InvalidTerm => k_is)
    (case xm_InvalidTerm => k_is)
    (case xt_InvalidTerm => k_is)
    (case xk_InvalidTerm => k_is)
    (case xn_InvalidTerm_thing => k_is)
    (case ml_InvalidTerm_init__ => k_is)
    (case mcd_InvalidTerm_init__ => k_is)
    (case mk2_InvalidTerm_init__ => k_is)
    (case xa_InvalidTerm => k_is)
    (case xb_InvalidTerm => k_is)
    (case xc_InvalidTerm => k_is)
    (case xd_InvalidTerm => k_is)
    (case xe_InvalidTerm => k_is)
    (case xf_InvalidTerm => k_is)
    (case xg_InvalidTerm => k_is)
    (case xj_InvalidTerm => k_is)
    (case xh_InvalidRule => kx_is)
    (case xo_InvalidRule => kx_is)
    (case xs_InvalidRule => k_is)
    (case xm_InvalidRule => k_is)
    (case xt_InvalidRule => k_is)
    (case xk_InvalidRule => k_is)
    (case xn_InvalidRule_reason => k_is)
    (case ml_InvalidRule_init__ => k_is)
    (case mcd_InvalidRule_init__ => k_is)
    (case mk2_InvalidRule_init__ => k_is)
    (case xa_InvalidRule => k_is)
    (case xb_InvalidRule => k_is)
    (case xc_InvalidRule => k_is)
    (case xd_InvalidRule => k_is)
    (case xe_InvalidRule => k_is)
    (case xf_InvalidRule => k_is)
    (case xg_InvalidRule => k_is)
    (case xj_InvalidRule => k_is)
    (case xh_InvalidFunction => kx_is)
    (case xo_InvalidFunction => kx_is)
    (case xs_InvalidFunction => k_is)
    (case xm_InvalidFunction => k_is)
    (case xt_InvalidFunction => k_is)
    (case xk_InvalidFunction => k_is)
    (case xn_InvalidFunction_reason => k_is)
    (case ml_InvalidFunction_init__ => k_is)
    (case mcd_InvalidFunction_init__ => k_is)
    (case mk2_InvalidFunction_init__ => k_is)
    (case xa_InvalidFunction => k_is)
    (case xb_InvalidFunction => k_is)
    (case xc_InvalidFunction => k_is)
    (case xd_InvalidFunction => k_is)
    (case xe_InvalidFunction => k_is)
    (case xf_InvalidFunction => k_is)
    (case xg_InvalidFunction => k_is)
    (case xj_InvalidFunction => k_is)
    (case xh_InvalidPackage => kx_is)
    (case xo_InvalidPackage => kx_is)
    (case xs_InvalidPackage => k_is)
    (case xm_InvalidPackage => k_is)
    (case xt_InvalidPackage => k_is)
    (case xk_InvalidPackage => k_is)
    (case xn_InvalidPackage_field => k_is)
    (case xn_InvalidPackage_index => k_is)
    (case ml_InvalidPackage_init__ => k_is)
    (case mcd_InvalidPackage_init__ => k_is)
    (case mk2_InvalidPackage_init__ => k_is)
    (case xa_InvalidPackage => k_is)
    (case xb_InvalidPackage => k_is)
    (case xc_InvalidPackage => k_is)
    (case xd_InvalidPackage => k_is)
    (case xe_InvalidPackage => k_is)
    (case xf_InvalidPackage => k_is)
    (case xg_InvalidPackage => k_is)
    (case xj_InvalidPackage => k_is)
    (case xh_NoHouse => kx_is)
    (case xo_NoHouse => kx_is)
    (case xs_NoHouse => k_is)
    (case xm_NoHouse => k_is)
    (case xt_NoHouse => k_is)
    (case xk_NoHouse => k_is)
    (case xn_NoHouse_reason => k_is)
    (case xn_NoHouse_name => k_is)
    (case ml_NoHouse_init__ => k_is)
    (case mcd_NoHouse_init__ => k_is)
    (case mk2_NoHouse_init__ => k_is)
    (case xa_NoHouse => k_is)
    (case xb_NoHouse => k_is)
    (case xc_NoHouse => k_is)
    (case xd_NoHouse => k_is)
    (case xe_NoHouse => k_is)
    (case xf_NoHouse => k_is)
    (case xg_NoHouse => k_is)
    (case xj_NoHouse => k_is)
    (case xh_Refused => kx_is)
    (case xo_Refused => kx_is)
    (case xs_Refused => k_is)
    (case xm_Refused => k_is)
    (case xt_Refused => k_is)
    (case xk_Refused => k_is)
    (case xn_Refused_complaints => k_is)
    (case ml_Refused_init__ => k_is)
    (case mcd_Refused_init__ => k_is)
    (case mk2_Refused_init__ => k_is)
    (case xa_Refused => k_is)
    (case xb_Refused => k_is)
    (case xc_Refused => k_is)
    (case xd_Refused => k_is)
    (case xe_Refused => k_is)
    (case xf_Refused => k_is)
    (case xg_Refused => k_is)
    (case xj_Refused => k_is)
    (case xh_NotNext => kx_is)
    (case xo_NotNext => kx_is)
    (case xs_NotNext => k_is)
    (case xm_NotNext => k_is)
    (case xt_NotNext => k_is)
    (case xk_NotNext => k_is)
    (case xn_NotNext_field => k_is)
    (case xn_NotNext_index => k_is)
    (case ml_NotNext_init__ => k_is)
    (case mcd_NotNext_init__ => k_is)
    (case mk2_NotNext_init__ => k_is)
    (case xa_NotNext => k_is)
    (case xb_NotNext => k_is)
    (case xc_NotNext => k_is)
    (case xd_NotNext => k_is)
    (case xe_NotNext => k_is)
    (case xf_NotNext => k_is)
    (case xg_NotNext => k_is)
    (case xj_NotNext => k_is)
    (case xh_Mismatch => kx_is)
    (case xo_Mismatch => kx_is)
    (case xs_Mismatch => k_is)
    (case xm_Mismatch => k_is)
    (case xt_Mismatch => k_is)
    (case xk_Mismatch => k_is)
    (case xn_Mismatch_name => k_is)
    (case xn_Mismatch_other => k_is)
    (case ml_Mismatch_init__ => k_is)
    (case mcd_Mismatch_init__ => k_is)
    (case mk2_Mismatch_init__ => k_is)
    (case xa_Mismatch => k_is)
    (case xb_Mismatch => k_is)
    (case xc_Mismatch => k_is)
    (case xd_Mismatch => k_is)
    (case xe_Mismatch => k_is)
    (case xf_Mismatch => k_is)
    (case xg_Mismatch => k_is)
    (case xj_Mismatch => k_is)
    (case xh_BadPaper => kx_is)
    (case xo_BadPaper => kx_is)
    (case xs_BadPaper => k_is)
    (case xm_BadPaper => k_is)
    (case xt_BadPaper => k_is)
    (case xk_BadPaper => k_is)
    (case xn_BadPaper_index => k_is)
    (case ml_BadPaper_init__ => k_is)
    (case mcd_BadPaper_init__ => k_is)
    (case mk2_BadPaper_init__ => k_is)
    (case xa_BadPaper => k_is)
    (case xb_BadPaper => k_is)
    (case xc_BadPaper => k_is)
    (case xd_BadPaper => k_is)
    (case xe_BadPaper => k_is)
    (case xf_BadPaper => k_is)
    (case xg_BadPaper => k_is)
    (case xj_BadPaper => k_is)
    (case xh_InvalidText => kx_is)
    (case xo_InvalidText => kx_is)
    (case xs_InvalidText => k_is)
    (case xm_InvalidText => k_is)
    (case xt_InvalidText => k_is)
    (case xk_InvalidText => k_is)
    (case xn_InvalidText_line => k_is)
    (case ml_InvalidText_init__ => k_is)
    (case mcd_InvalidText_init__ => k_is)
    (case mk2_InvalidText_init__ => k_is)
    (case xa_InvalidText => k_is)
    (case xb_InvalidText => k_is)
    (case xc_InvalidText => k_is)
    (case xd_InvalidText => k_is)
    (case xe_InvalidText => k_is)
    (case xf_InvalidText => k_is)
    (case xg_InvalidText => k_is)
    (case xj_InvalidText => k_is)
    (case xh_InvalidCommand => kx_is)
    (case xo_InvalidCommand => kx_is)
    (case xs_InvalidCommand => k_is)
    (case xm_InvalidCommand => k_is)
    (case xt_InvalidCommand => k_is)
    (case xk_InvalidCommand => k_is)
    (case xn_InvalidCommand_word => k_is)
    (case ml_InvalidCommand_init__ => k_is)
    (case mcd_InvalidCommand_init__ => k_is)
    (case mk2_InvalidCommand_init__ => k_is)
    (case xa_InvalidCommand => k_is)
    (case xb_InvalidCommand => k_is)
    (case xc_InvalidCommand => k_is)
    (case xd_InvalidCommand => k_is)
    (case xe_InvalidCommand => k_is)
    (case xf_InvalidCommand => k_is)
    (case xg_InvalidCommand => k_is)
    (case xj_InvalidCommand => k_is)
    (case xh_InvalidLimit => kx_is)
    (case xo_InvalidLimit => kx_is)
    (case xs_InvalidLimit => k_is)
    (case xm_InvalidLimit => k_is)
    (case xt_InvalidLimit => k_is)
    (case xk_InvalidLimit => k_is)
    (case xn_InvalidLimit_limit => k_is)
    (case ml_InvalidLimit_init__ => k_is)
    (case mcd_InvalidLimit_init__ => k_is)
    (case mk2_InvalidLimit_init__ => k_is)
    (case xa_InvalidLimit => k_is)
    (case xb_InvalidLimit => k_is)
    (case xc_InvalidLimit => k_is)
    (case xd_InvalidLimit => k_is)
    (case xe_InvalidLimit => k_is)
    (case xf_InvalidLimit => k_is)
    (case xg_InvalidLimit => k_is)
    (case xj_InvalidLimit => k_is)
    (case xh_UnknownWord => kx_is)
    (case xo_UnknownWord => kx_is)
    (case xs_UnknownWord => k_is)
    (case xm_UnknownWord => k_is)
    (case xt_UnknownWord => k_is)
    (case xk_UnknownWord => k_is)
    (case xn_UnknownWord_word => k_is)
    (case ml_UnknownWord_init__ => k_is)
    (case mcd_UnknownWord_init__ => k_is)
    (case mk2_UnknownWord_init__ => k_is)
    (case xa_UnknownWord => k_is)
    (case xb_UnknownWord => k_is)
    (case xc_UnknownWord => k_is)
    (case xd_UnknownWord => k_is)
    (case xe_UnknownWord => k_is)
    (case xf_UnknownWord => k_is)
    (case xg_UnknownWord => k_is)
    (case xj_UnknownWord => k_is)
    (case xh_NoAnswer => kx_is)
    (case xo_NoAnswer => kx_is)
    (case xs_NoAnswer => k_is)
    (case xm_NoAnswer => k_is)
    (case xt_NoAnswer => k_is)
    (case xk_NoAnswer => k_is)
    (case xn_NoAnswer_question => k_is)
    (case ml_NoAnswer_init__ => k_is)
    (case mcd_NoAnswer_init__ => k_is)
    (case mk2_NoAnswer_init__ => k_is)
    (case xa_NoAnswer => k_is)
    (case xb_NoAnswer => k_is)
    (case xc_NoAnswer => k_is)
    (case xd_NoAnswer => k_is)
    (case xe_NoAnswer => k_is)
    (case xf_NoAnswer => k_is)
    (case xg_NoAnswer => k_is)
    (case xj_NoAnswer => k_is)
    (case xh_NoEdition => kx_is)
    (case xo_NoEdition => kx_is)
    (case xs_NoEdition => k_is)
    (case xm_NoEdition => k_is)
    (case xt_NoEdition => k_is)
    (case xk_NoEdition => k_is)
    (case xn_NoEdition_name => k_is)
    (case xn_NoEdition_edition => k_is)
    (case ml_NoEdition_init__ => k_is)
    (case mcd_NoEdition_init__ => k_is)
    (case mk2_NoEdition_init__ => k_is)
    (case xa_NoEdition => k_is)
    (case xb_NoEdition => k_is)
    (case xc_NoEdition => k_is)
    (case xd_NoEdition => k_is)
    (case xe_NoEdition => k_is)
    (case xf_NoEdition => k_is)
    (case xg_NoEdition => k_is)
    (case xj_NoEdition => k_is)
    (case xh_NothingToUndo => kx_is)
    (case xo_NothingToUndo => kx_is)
    (case xs_NothingToUndo => k_is)
    (case xm_NothingToUndo => k_is)
    (case xt_NothingToUndo => k_is)
    (case xk_NothingToUndo => k_is)
    (case ml_NothingToUndo_init__ => k_is)
    (case mcd_NothingToUndo_init__ => k_is)
    (case mk2_NothingToUndo_init__ => k_is)
    (case xa_NothingToUndo => k_is)
    (case xb_NothingToUndo => k_is)
    (case xc_NothingToUndo => k_is)
    (case xd_NothingToUndo => k_is)
    (case xe_NothingToUndo => k_is)
    (case xf_NothingToUndo => k_is)
    (case xg_NothingToUndo => k_is)
    (case xj_NothingToUndo => k_is)
    (case xh_TooMany => kx_is)
    (case xo_TooMany => kx_is)
    (case xs_TooMany => k_is)
    (case xm_TooMany => k_is)
    (case xt_TooMany => k_is)
    (case xk_TooMany => k_is)
    (case xn_TooMany_limit => k_is)
    (case ml_TooMany_init__ => k_is)
    (case mcd_TooMany_init__ => k_is)
    (case mk2_TooMany_init__ => k_is)
    (case xa_TooMany => k_is)
    (case xb_TooMany => k_is)
    (case xc_TooMany => k_is)
    (case xd_TooMany => k_is)
    (case xe_TooMany => k_is)
    (case xf_TooMany => k_is)
    (case xg_TooMany => k_is)
    (case xj_TooMany => k_is)
    (case xr1_NeverError => k_is)
    (case xr2_NeverError => k_is)
    (case xl_NeverError => k_is)
    (case ic_InvalidTerm_BadPaper => kit_is)
    (case ic_InvalidRule_BadPaper => kit_is)
    (case ic_InvalidFunction_BadPaper => kit_is)
    (case ic_InvalidPackage_BadPaper => kit_is)
    (case ic_NoHouse_BadPaper => kit_is)
    (case ic_Refused_BadPaper => kit_is)
    (case ic_NotNext_BadPaper => kit_is)
    (case ic_Mismatch_BadPaper => kit_is)
    (case ic_BadPaper_BadPaper => kit_is)
    (case ic_InvalidText_BadPaper => kit_is)
    (case ic_InvalidCommand_BadPaper => kit_is)
    (case ic_InvalidLimit_BadPaper => kit_is)
    (case ic_UnknownWord_BadPaper => kit_is)
    (case ic_NoAnswer_BadPaper => kit_is)
    (case ic_NoEdition_BadPaper => kit_is)
    (case ic_NothingToUndo_BadPaper => kit_is)
    (case ic_TooMany_BadPaper => kit_is)
    (case ic_InvalidTerm_InvalidCommand => kit_is)
    (case ic_InvalidRule_InvalidCommand => kit_is)
    (case ic_InvalidFunction_InvalidCommand => kit_is)
    (case ic_InvalidPackage_InvalidCommand => kit_is)
    (case ic_NoHouse_InvalidCommand => kit_is)
    (case ic_Refused_InvalidCommand => kit_is)
    (case ic_NotNext_InvalidCommand => kit_is)
    (case ic_Mismatch_InvalidCommand => kit_is)
    (case ic_BadPaper_InvalidCommand => kit_is)
    (case ic_InvalidText_InvalidCommand => kit_is)
    (case ic_InvalidCommand_InvalidCommand => kit_is)
    (case ic_InvalidLimit_InvalidCommand => kit_is)
    (case ic_UnknownWord_InvalidCommand => kit_is)
    (case ic_NoAnswer_InvalidCommand => kit_is)
    (case ic_NoEdition_InvalidCommand => kit_is)
    (case ic_NothingToUndo_InvalidCommand => kit_is)
    (case ic_TooMany_InvalidCommand => kit_is)
    (case ic_InvalidTerm_InvalidFunction => kit_is)
    (case ic_InvalidRule_InvalidFunction => kit_is)
    (case ic_InvalidFunction_InvalidFunction => kit_is)
    (case ic_InvalidPackage_InvalidFunction => kit_is)
    (case ic_NoHouse_InvalidFunction => kit_is)
    (case ic_Refused_InvalidFunction => kit_is)
    (case ic_NotNext_InvalidFunction => kit_is)
    (case ic_Mismatch_InvalidFunction => kit_is)
    (case ic_BadPaper_InvalidFunction => kit_is)
    (case ic_InvalidText_InvalidFunction => kit_is)
    (case ic_InvalidCommand_InvalidFunction => kit_is)
    (case ic_InvalidLimit_InvalidFunction => kit_is)
    (case ic_UnknownWord_InvalidFunction => kit_is)
    (case ic_NoAnswer_InvalidFunction => kit_is)
    (case ic_NoEdition_InvalidFunction => kit_is)
    (case ic_NothingToUndo_InvalidFunction => kit_is)
    (case ic_TooMany_InvalidFunction => kit_is)
    (case ic_InvalidTerm_InvalidLimit => kit_is)
    (case ic_InvalidRule_InvalidLimit => kit_is)
    (case ic_InvalidFunction_InvalidLimit => kit_is)
    (case ic_InvalidPackage_InvalidLimit => kit_is)
    (case ic_NoHouse_InvalidLimit => kit_is)
    (case ic_Refused_InvalidLimit => kit_is)
    (case ic_NotNext_InvalidLimit => kit_is)
    (case ic_Mismatch_InvalidLimit => kit_is)
    (case ic_BadPaper_InvalidLimit => kit_is)
    (case ic_InvalidText_InvalidLimit => kit_is)
    (case ic_InvalidCommand_InvalidLimit => kit_is)
    (case ic_InvalidLimit_InvalidLimit => kit_is)
    (case ic_UnknownWord_InvalidLimit => kit_is)
    (case ic_NoAnswer_InvalidLimit => kit_is)
    (case ic_NoEdition_InvalidLimit => kit_is)
    (case ic_NothingToUndo_InvalidLimit => kit_is)
    (case ic_TooMany_InvalidLimit => kit_is)
    (case ic_InvalidTerm_InvalidPackage => kit_is)
    (case ic_InvalidRule_InvalidPackage => kit_is)
    (case ic_InvalidFunction_InvalidPackage => kit_is)
    (case ic_InvalidPackage_InvalidPackage => kit_is)
    (case ic_NoHouse_InvalidPackage => kit_is)
    (case ic_Refused_InvalidPackage => kit_is)
    (case ic_NotNext_InvalidPackage => kit_is)
    (case ic_Mismatch_InvalidPackage => kit_is)
    (case ic_BadPaper_InvalidPackage => kit_is)
    (case ic_InvalidText_InvalidPackage => kit_is)
    (case ic_InvalidCommand_InvalidPackage => kit_is)
    (case ic_InvalidLimit_InvalidPackage => kit_is)
    (case ic_UnknownWord_InvalidPackage => kit_is)
    (case ic_NoAnswer_InvalidPackage => kit_is)
    (case ic_NoEdition_InvalidPackage => kit_is)
    (case ic_NothingToUndo_InvalidPackage => kit_is)
    (case ic_TooMany_InvalidPackage => kit_is)
    (case ic_InvalidTerm_InvalidRule => kit_is)
    (case ic_InvalidRule_InvalidRule => kit_is)
    (case ic_InvalidFunction_InvalidRule => kit_is)
    (case ic_InvalidPackage_InvalidRule => kit_is)
    (case ic_NoHouse_InvalidRule => kit_is)
    (case ic_Refused_InvalidRule => kit_is)
    (case ic_NotNext_InvalidRule => kit_is)
    (case ic_Mismatch_InvalidRule => kit_is)
    (case ic_BadPaper_InvalidRule => kit_is)
    (case ic_InvalidText_InvalidRule => kit_is)
    (case ic_InvalidCommand_InvalidRule => kit_is)
    (case ic_InvalidLimit_InvalidRule => kit_is)
    (case ic_UnknownWord_InvalidRule => kit_is)
    (case ic_NoAnswer_InvalidRule => kit_is)
    (case ic_NoEdition_InvalidRule => kit_is)
    (case ic_NothingToUndo_InvalidRule => kit_is)
    (case ic_TooMany_InvalidRule => kit_is)
    (case ic_InvalidTerm_InvalidTerm => kit_is)
    (case ic_InvalidRule_InvalidTerm => kit_is)
    (case ic_InvalidFunction_InvalidTerm => kit_is)
    (case ic_InvalidPackage_InvalidTerm => kit_is)
    (case ic_NoHouse_InvalidTerm => kit_is)
    (case ic_Refused_InvalidTerm => kit_is)
    (case ic_NotNext_InvalidTerm => kit_is)
    (case ic_Mismatch_InvalidTerm => kit_is)
    (case ic_BadPaper_InvalidTerm => kit_is)
    (case ic_InvalidText_InvalidTerm => kit_is)
    (case ic_InvalidCommand_InvalidTerm => kit_is)
    (case ic_InvalidLimit_InvalidTerm => kit_is)
    (case ic_UnknownWord_InvalidTerm => kit_is)
    (case ic_NoAnswer_InvalidTerm => kit_is)
    (case ic_NoEdition_InvalidTerm => kit_is)
    (case ic_NothingToUndo_InvalidTerm => kit_is)
    (case ic_TooMany_InvalidTerm => kit_is)
    (case ic_InvalidTerm_InvalidText => kit_is)
    (case ic_InvalidRule_InvalidText => kit_is)
    (case ic_InvalidFunction_InvalidText => kit_is)
    (case ic_InvalidPackage_InvalidText => kit_is)
    (case ic_NoHouse_InvalidText => kit_is)
    (case ic_Refused_InvalidText => kit_is)
    (case ic_NotNext_InvalidText => kit_is)
    (case ic_Mismatch_InvalidText => kit_is)
    (case ic_BadPaper_InvalidText => kit_is)
    (case ic_InvalidText_InvalidText => kit_is)
    (case ic_InvalidCommand_InvalidText => kit_is)
    (case ic_InvalidLimit_InvalidText => kit_is)
    (case ic_UnknownWord_InvalidText => kit_is)
    (case ic_NoAnswer_InvalidText => kit_is)
    (case ic_NoEdition_InvalidText => kit_is)
    (case ic_NothingToUndo_InvalidText => kit_is)
    (case ic_TooMany_InvalidText => kit_is)
    (case ic_InvalidTerm_Mismatch => kit_is)
    (case ic_InvalidRule_Mismatch => kit_is)
    (case ic_InvalidFunction_Mismatch => kit_is)
    (case ic_InvalidPackage_Mismatch => kit_is)
    (case ic_NoHouse_Mismatch => kit_is)
    (case ic_Refused_Mismatch => kit_is)
    (case ic_NotNext_Mismatch => kit_is)
    (case ic_Mismatch_Mismatch => kit_is)
    (case ic_BadPaper_Mismatch => kit_is)
    (case ic_InvalidText_Mismatch => kit_is)
    (case ic_InvalidCommand_Mismatch => kit_is)
    (case ic_InvalidLimit_Mismatch => kit_is)
    (case ic_UnknownWord_Mismatch => kit_is)
    (case ic_NoAnswer_Mismatch => kit_is)
    (case ic_NoEdition_Mismatch => kit_is)
    (case ic_NothingToUndo_Mismatch => kit_is)
    (case ic_TooMany_Mismatch => kit_is)
    (case ic_InvalidTerm_NeverError => kit_is)
    (case ic_InvalidRule_NeverError => kit_is)
    (case ic_InvalidFunction_NeverError => kit_is)
    (case ic_InvalidPackage_NeverError => kit_is)
    (case ic_NoHouse_NeverError => kit_is)
    (case ic_Refused_NeverError => kit_is)
    (case ic_NotNext_NeverError => kit_is)
    (case ic_Mismatch_NeverError => kit_is)
    (case ic_BadPaper_NeverError => kit_is)
    (case ic_InvalidText_NeverError => kit_is)
    (case ic_InvalidCommand_NeverError => kit_is)
    (case ic_InvalidLimit_NeverError => kit_is)
    (case ic_UnknownWord_NeverError => kit_is)
    (case ic_NoAnswer_NeverError => kit_is)
    (case ic_NoEdition_NeverError => kit_is)
    (case ic_NothingToUndo_NeverError => kit_is)
    (case ic_TooMany_NeverError => kit_is)
    (case ic_InvalidTerm_NoAnswer => kit_is)
    (case ic_InvalidRule_NoAnswer => kit_is)
    (case ic_InvalidFunction_NoAnswer => kit_is)
    (case ic_InvalidPackage_NoAnswer => kit_is)
    (case ic_NoHouse_NoAnswer => kit_is)
    (case ic_Refused_NoAnswer => kit_is)
    (case ic_NotNext_NoAnswer => kit_is)
    (case ic_Mismatch_NoAnswer => kit_is)
    (case ic_BadPaper_NoAnswer => kit_is)
    (case ic_InvalidText_NoAnswer => kit_is)
    (case ic_InvalidCommand_NoAnswer => kit_is)
    (case ic_InvalidLimit_NoAnswer => kit_is)
    (case ic_UnknownWord_NoAnswer => kit_is)
    (case ic_NoAnswer_NoAnswer => kit_is)
    (case ic_NoEdition_NoAnswer => kit_is)
    (case ic_NothingToUndo_NoAnswer => kit_is)
    (case ic_TooMany_NoAnswer => kit_is)
    (case ic_InvalidTerm_NoEdition => kit_is)
    (case ic_InvalidRule_NoEdition => kit_is)
    (case ic_InvalidFunction_NoEdition => kit_is)
    (case ic_InvalidPackage_NoEdition => kit_is)
    (case ic_NoHouse_NoEdition => kit_is)
    (case ic_Refused_NoEdition => kit_is)
    (case ic_NotNext_NoEdition => kit_is)
    (case ic_Mismatch_NoEdition => kit_is)
    (case ic_BadPaper_NoEdition => kit_is)
    (case ic_InvalidText_NoEdition => kit_is)
    (case ic_InvalidCommand_NoEdition => kit_is)
    (case ic_InvalidLimit_NoEdition => kit_is)
    (case ic_UnknownWord_NoEdition => kit_is)
    (case ic_NoAnswer_NoEdition => kit_is)
    (case ic_NoEdition_NoEdition => kit_is)
    (case ic_NothingToUndo_NoEdition => kit_is)
    (case ic_TooMany_NoEdition => kit_is)
    (case ic_InvalidTerm_NoHouse => kit_is)
    (case ic_InvalidRule_NoHouse => kit_is)
    (case ic_InvalidFunction_NoHouse => kit_is)
    (case ic_InvalidPackage_NoHouse => kit_is)
    (case ic_NoHouse_NoHouse => kit_is)
    (case ic_Refused_NoHouse => kit_is)
    (case ic_NotNext_NoHouse => kit_is)
    (case ic_Mismatch_NoHouse => kit_is)
    (case ic_BadPaper_NoHouse => kit_is)
    (case ic_InvalidText_NoHouse => kit_is)
    (case ic_InvalidCommand_NoHouse => kit_is)
    (case ic_InvalidLimit_NoHouse => kit_is)
    (case ic_UnknownWord_NoHouse => kit_is)
    (case ic_NoAnswer_NoHouse => kit_is)
    (case ic_NoEdition_NoHouse => kit_is)
    (case ic_NothingToUndo_NoHouse => kit_is)
    (case ic_TooMany_NoHouse => kit_is)
    (case ic_InvalidTerm_NotNext => kit_is)
    (case ic_InvalidRule_NotNext => kit_is)
    (case ic_InvalidFunction_NotNext => kit_is)
    (case ic_InvalidPackage_NotNext => kit_is)
    (case ic_NoHouse_NotNext => kit_is)
    (case ic_Refused_NotNext => kit_is)
    (case ic_NotNext_NotNext => kit_is)
    (case ic_Mismatch_NotNext => kit_is)
    (case ic_BadPaper_NotNext => kit_is)
    (case ic_InvalidText_NotNext => kit_is)
    (case ic_InvalidCommand_NotNext => kit_is)
    (case ic_InvalidLimit_NotNext => kit_is)
    (case ic_UnknownWord_NotNext => kit_is)
    (case ic_NoAnswer_NotNext => kit_is)
    (case ic_NoEdition_NotNext => kit_is)
    (case ic_NothingToUndo_NotNext => kit_is)
    (case ic_TooMany_NotNext => kit_is)
    (case ic_InvalidTerm_NothingToUndo => kit_is)
    (case ic_InvalidRule_NothingToUndo => kit_is)
    (case ic_InvalidFunction_NothingToUndo => kit_is)
    (case ic_InvalidPackage_NothingToUndo => kit_is)
    (case ic_NoHouse_NothingToUndo => kit_is)
    (case ic_Refused_NothingToUndo => kit_is)
    (case ic_NotNext_NothingToUndo => kit_is)
    (case ic_Mismatch_NothingToUndo => kit_is)
    (case ic_BadPaper_NothingToUndo => kit_is)
    (case ic_InvalidText_NothingToUndo => kit_is)
    (case ic_InvalidCommand_NothingToUndo => kit_is)
    (case ic_InvalidLimit_NothingToUndo => kit_is)
    (case ic_UnknownWord_NothingToUndo => kit_is)
    (case ic_NoAnswer_NothingToUndo => kit_is)
    (case ic_NoEdition_NothingToUndo => kit_is)
    (case ic_NothingToUndo_NothingToUndo => kit_is)
    (case ic_TooMany_NothingToUndo => kit_is)
    (case ic_InvalidTerm_Refused => kit_is)
    (case ic_InvalidRule_Refused => kit_is)
    (case ic_InvalidFunction_Refused => kit_is)
    (case ic_InvalidPackage_Refused => kit_is)
    (case ic_NoHouse_Refused => kit_is)
    (case ic_Refused_Refused => kit_is)
    (case ic_NotNext_Refused => kit_is)
    (case ic_Mismatch_Refused => kit_is)
    (case ic_BadPaper_Refused => kit_is)
    (case ic_InvalidText_Refused => kit_is)
    (case ic_InvalidCommand_Refused => kit_is)
    (case ic_InvalidLimit_Refused => kit_is)
    (case ic_UnknownWord_Refused => kit_is)
    (case ic_NoAnswer_Refused => kit_is)
    (case ic_NoEdition_Refused => kit_is)
    (case ic_NothingToUndo_Refused => kit_is)
    (case ic_TooMany_Refused => kit_is)
    (case ic_InvalidTerm_TooMany => kit_is)
    (case ic_InvalidRule_TooMany => kit_is)
    (case ic_InvalidFunction_TooMany => kit_is)
    (case ic_InvalidPackage_TooMany => kit_is)
    (case ic_NoHouse_TooMany => kit_is)
    (case ic_Refused_TooMany => kit_is)
    (case ic_NotNext_TooMany => kit_is)
    (case ic_Mismatch_TooMany => kit_is)
    (case ic_BadPaper_TooMany => kit_is)
    (case ic_InvalidText_TooMany => kit_is)
    (case ic_InvalidCommand_TooMany => kit_is)
    (case ic_InvalidLimit_TooMany => kit_is)
    (case ic_UnknownWord_TooMany => kit_is)
    (case ic_NoAnswer_TooMany => kit_is)
    (case ic_NoEdition_TooMany => kit_is)
    (case ic_NothingToUndo_TooMany => kit_is)
    (case ic_TooMany_TooMany => kit_is)
    (case ic_InvalidTerm_UnknownWord => kit_is)
    (case ic_InvalidRule_UnknownWord => kit_is)
    (case ic_InvalidFunction_UnknownWord => kit_is)
    (case ic_InvalidPackage_UnknownWord => kit_is)
    (case ic_NoHouse_UnknownWord => kit_is)
    (case ic_Refused_UnknownWord => kit_is)
    (case ic_NotNext_UnknownWord => kit_is)
    (case ic_Mismatch_UnknownWord => kit_is)
    (case ic_BadPaper_UnknownWord => kit_is)
    (case ic_InvalidText_UnknownWord => kit_is)
    (case ic_InvalidCommand_UnknownWord => kit_is)
    (case ic_InvalidLimit_UnknownWord => kit_is)
    (case ic_UnknownWord_UnknownWord => kit_is)
    (case ic_NoAnswer_UnknownWord => kit_is)
    (case ic_NoEdition_UnknownWord => kit_is)
    (case ic_NothingToUndo_UnknownWord => kit_is)
    (case ic_TooMany_UnknownWord => kit_is)
    (case ic_InvalidTerm_KeyError => kit_is)
    (case ic_InvalidRule_KeyError => kit_is)
    (case ic_InvalidFunction_KeyError => kit_is)
    (case ic_InvalidPackage_KeyError => kit_is)
    (case ic_NoHouse_KeyError => kit_is)
    (case ic_Refused_KeyError => kit_is)
    (case ic_NotNext_KeyError => kit_is)
    (case ic_Mismatch_KeyError => kit_is)
    (case ic_BadPaper_KeyError => kit_is)
    (case ic_InvalidText_KeyError => kit_is)
    (case ic_InvalidCommand_KeyError => kit_is)
    (case ic_InvalidLimit_KeyError => kit_is)
    (case ic_UnknownWord_KeyError => kit_is)
    (case ic_NoAnswer_KeyError => kit_is)
    (case ic_NoEdition_KeyError => kit_is)
    (case ic_NothingToUndo_KeyError => kit_is)
    (case ic_TooMany_KeyError => kit_is)
    (case ic_InvalidTerm_LookupError => kit_is)
    (case ic_InvalidRule_LookupError => kit_is)
    (case ic_InvalidFunction_LookupError => kit_is)
    (case ic_InvalidPackage_LookupError => kit_is)
    (case ic_NoHouse_LookupError => kit_is)
    (case ic_Refused_LookupError => kit_is)
    (case ic_NotNext_LookupError => kit_is)
    (case ic_Mismatch_LookupError => kit_is)
    (case ic_BadPaper_LookupError => kit_is)
    (case ic_InvalidText_LookupError => kit_is)
    (case ic_InvalidCommand_LookupError => kit_is)
    (case ic_InvalidLimit_LookupError => kit_is)
    (case ic_UnknownWord_LookupError => kit_is)
    (case ic_NoAnswer_LookupError => kit_is)
    (case ic_NoEdition_LookupError => kit_is)
    (case ic_NothingToUndo_LookupError => kit_is)
    (case ic_TooMany_LookupError => kit_is)
    (case ic_InvalidTerm_OverflowError => kit_is)
    (case ic_InvalidRule_OverflowError => kit_is)
    (case ic_InvalidFunction_OverflowError => kit_is)
    (case ic_InvalidPackage_OverflowError => kit_is)
    (case ic_NoHouse_OverflowError => kit_is)
    (case ic_Refused_OverflowError => kit_is)
    (case ic_NotNext_OverflowError => kit_is)
    (case ic_Mismatch_OverflowError => kit_is)
    (case ic_BadPaper_OverflowError => kit_is)
    (case ic_InvalidText_OverflowError => kit_is)
    (case ic_InvalidCommand_OverflowError => kit_is)
    (case ic_InvalidLimit_OverflowError => kit_is)
    (case ic_UnknownWord_OverflowError => kit_is)
    (case ic_NoAnswer_OverflowError => kit_is)
    (case ic_NoEdition_OverflowError => kit_is)
    (case ic_NothingToUndo_OverflowError => kit_is)
    (case ic_TooMany_OverflowError => kit_is)
    (case ic_InvalidTerm_ValueError => kit_is)
    (case ic_InvalidRule_ValueError => kit_is)
    (case ic_InvalidFunction_ValueError => kit_is)
    (case ic_InvalidPackage_ValueError => kit_is)
    (case ic_NoHouse_ValueError => kit_is)
    (case ic_Refused_ValueError => kit_is)
    (case ic_NotNext_ValueError => kit_is)
    (case ic_Mismatch_ValueError => kit_is)
    (case ic_BadPaper_ValueError => kit_is)
    (case ic_InvalidText_ValueError => kit_is)
    (case ic_InvalidCommand_ValueError => kit_is)
    (case ic_InvalidLimit_ValueError => kit_is)
    (case ic_UnknownWord_ValueError => kit_is)
    (case ic_NoAnswer_ValueError => kit_is)
    (case ic_NoEdition_ValueError => kit_is)
    (case ic_NothingToUndo_ValueError => kit_is)
    (case ic_TooMany_ValueError => kit_is)
